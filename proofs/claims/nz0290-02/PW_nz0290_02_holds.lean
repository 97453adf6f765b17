import PyProof.Rows.All
import Wide.All
import OpenK.AllK
import Wide.FinOn
import PySem.Challenge.RW_nz0290_02
open PySem PySem.W PySem.Calls PySem.Spec PyProof.Rows
set_option Elab.async false
set_option maxRecDepth 100000
set_option compiler.extract_closed false
namespace Mine
/-- the codes that hold a bytearray while they stand on the machine's stack -/
noncomputable def holders : List String := "bytearray.__contains__" :: "bytearray.__mod__" :: "bytearray.__rmod__" :: "_struct.pack_into.held" :: "bytearray.find.held" :: Builtin.Bytes.decodersThatHold
noncomputable def calmC : Code → Bool
  | .builtin id _ => !holders.contains id
  | _ => true
/-- no such code stands on the stack -/
noncomputable def Calm (Γ : PySem.Ctx) : Prop := calmC Γ.code = true ∧ ∀ x ∈ Γ.below, calmC x.1 = true
theorem Calm.enter {Γ : PySem.Ctx} {c : Code} {h : Option Value} {p : Pos} (x : Calm Γ) (hc : calmC c = true) : Calm (Γ.enter c h p) :=
  ⟨hc, fun y hy => by
    rcases List.mem_cons.mp hy with rfl | hy
    · exact x.1
    · exact x.2 y hy⟩
theorem Calm.goto {Γ : PySem.Ctx} {c : Code} (x : Calm Γ) (hc : calmC c = true) : Calm (Γ.goto c) := ⟨hc, x.2⟩

/-- wpAny over calm stacks alone -/
noncomputable def wpOn {α : Type} (M : Model) (A : Around) (t : Sem α) (Q : α → Shared → Prop) (E : Value → Shared → Prop) (s : Shared) : Prop :=
  ∀ Γ p, Γ.In A → Calm Γ → Sem.wp M Γ t (fun a _ s' => Q a s') (fun e _ s' => E e s') p s
noncomputable def codeOn (M : Model) (A : Around) (c : Code) (R : Result → Shared → Prop) (s : Shared) : Prop :=
  ∀ Γ p, Γ.code = c → Γ.Below A → Calm Γ → wpCode M Γ R p s

section
variable {α β : Type} {M : Model} {A : Around} {E : Value → Shared → Prop} {s : Shared}
theorem on_any {t : Sem α} {Q : α → Shared → Prop} (h : wpAny M A t Q E s) : wpOn M A t Q E s := fun Γ p hΓ _ => h Γ p hΓ
theorem on_mono {t : Sem α} {Q Q' : α → Shared → Prop} {E' : Value → Shared → Prop} (h : wpOn M A t Q E s) (hQ : ∀ a s, Q a s → Q' a s) (hE : ∀ e s, E e s → E' e s) : wpOn M A t Q' E' s :=
  fun Γ p hΓ q => Sem.wp_mono M Γ t (fun a _ s => hQ a s) (fun e _ s => hE e s) p s (h Γ p hΓ q)
theorem on_pure {a : α} {Q : α → Shared → Prop} (h : Q a s) : wpOn M A (pure a) Q E s := fun _ _ _ _ => h
theorem on_bind {m : Sem α} {f : α → Sem β} {Q : β → Shared → Prop} (h : wpOn M A m (fun a s' => wpOn M A (f a) Q E s') E s) : wpOn M A (m >>= f) Q E s := fun Γ p hΓ q => by
  rw [Sem.wp_bind']
  exact Sem.wp_mono M Γ m (fun a p' s' h' => h' Γ p' hΓ q) (fun _ _ _ h' => h') p s (h Γ p hΓ q)
/-- a part of which the library speaks, the rest on calm stacks -/
theorem on_then {m : Sem α} {f : α → Sem β} {Q : β → Shared → Prop} (h : wpAny M A m (fun a s' => wpOn M A (f a) Q E s') E s) : wpOn M A (m >>= f) Q E s := on_bind (on_any h)
theorem on_onRaise {m : Sem α} {k : Value → Sem Unit} {Q : α → Shared → Prop}
    (h : wpOn M A m Q (fun e s' => wpOn M A (k e) (fun _ s'' => E e s'') E s') s) : wpOn M A (m.onRaise k) Q E s := fun Γ p hΓ q => by
  rw [Sem.wp_onRaise]
  exact Sem.wp_mono M Γ m (fun _ _ _ h' => h') (fun e p' s' h' => h' Γ p' hΓ q) p s (h Γ p hΓ q)
theorem on_holding {vs : List Value} {m : Sem α} {Q : α → Shared → Prop} (h : wpOn M A m Q E s) : wpOn M A (holding vs m) Q E s :=
  fun Γ p hΓ q => by rw [Sem.wp_holding]; exact h Γ p hΓ q
theorem on_standAt {pos : Pos} {Q : Unit → Shared → Prop} (h : Q () s) : wpOn M A (standAt pos) Q E s := fun _ _ _ _ => h
theorem on_point {Q : Unit → Shared → Prop} (h : Q () s) : wpOn M A point Q E s := fun _ _ _ _ => h
theorem on_of_in1 {t : Sem α} {Q : α → Shared → Prop} (h : wpOn M A.in1 t Q E s) : wpOn M A t Q E s :=
  fun Γ p hΓ q => h Γ p ⟨hΓ.1, hΓ.2.1, hΓ.2.2.1, hΓ.2.2.2.1, Nat.le_succ_of_le hΓ.2.2.2.2⟩ q
theorem codeOn_any {c : Code} {R : Result → Shared → Prop} (h : codeAny M A c R s) : codeOn M A c R s := fun Γ p hc hΓ _ => h Γ p hc hΓ
theorem on_code {c : Code} {Q : Value → Shared → Prop} (hc : codeOn M A c (fun r s' => match r with | .ok (.ret v) => Q v s' | .ok _ => False | .error e => E e s') s) (hq : calmC c = true) :
    wpOn M A (runValue c) Q E s := fun Γ p hΓ q => by
  rw [Sem.wp_runValue]
  exact hc _ p rfl (hΓ.enter c none p (by intro x; cases x)) (q.enter hq)
theorem on_call {f : Value} {pos : List Value} {kw : List (Str × Value)} {Q : Value → Shared → Prop}
    (hc : codeOn M A (.call f ⟨pos, kw⟩) (fun r s' => match r with | .ok (.ret v) => Q v s' | .ok _ => False | .error e => E e s') s) : wpOn M A (call f pos kw) Q E s := on_code hc rfl
theorem on_run {c : Code} {Q : Flow → Shared → Prop}
    (hc : codeOn M (A.mark none) c (fun r s' => match r with | .ok f => Q f s' | .error e => E e s') s) (hq : calmC c = true) : wpOn M A (run c none) Q E s :=
  fun Γ p hΓ q => by rw [Sem.wp_run]; exact hc _ p rfl (hΓ.enter c none p (by intro x; cases x)) (q.enter hq)
theorem codeOn_tree {c : Code} {R : Result → Shared → Prop}
    (h : wpOn M (A.under c) (M.den c) (fun fin s' => match fin with | .done f => R (.ok f) s' | .again c' => c'.quiet = true ∧ calmC c' = true ∧ codeOn M A c' R s')
      (fun e s' => R (.error e) s') s) : codeOn M A c R s := fun Γ p hc hΓ q => by
  rw [wpCode_iff_wp, hc]
  refine Sem.wp_mono M Γ _ (fun fin p' s' h' => ?_) (fun _ _ _ h' => h') p s (h Γ p (hc ▸ hΓ.in) q)
  cases fin with
  | done f => exact h'
  | again c' => exact ⟨h'.1, h'.2.2 (Γ.goto c') p' rfl (hΓ.goto c') (q.goto h'.2.1)⟩
theorem codeOn_mono {c : Code} {R R' : Result → Shared → Prop} (h : codeOn M A c R s) (hR : ∀ r s, R r s → R' r s) : codeOn M A c R' s :=
  fun Γ p hc hΓ q => wpCode_mono hR (h Γ p hc hΓ q)
theorem codeOn_turns {c : Code} {R : Result → Shared → Prop} (hq : c.quiet = true) (hc : calmC c = true) (I : Nat → Shared → Prop)
    (turn : ∀ n s, I n s → wpOn M (A.under c) (M.den c)
      (fun fin s' => match fin with | .done f => R (.ok f) s' | .again c' => (c' = c ∧ ∃ m, m < n ∧ I m s') ∨ (c'.quiet = true ∧ calmC c' = true ∧ codeOn M A c' R s')) (fun e s' => R (.error e) s') s)
    (n : Nat) (h : I n s) : codeOn M A c R s := by
  induction n using Nat.strongRecOn generalizing s with
  | ind n ih =>
    refine codeOn_tree (on_mono (turn n s h) (fun fin s' hf => ?_) fun _ _ h' => h')
    cases fin with
    | done f => exact hf
    | again c' =>
      rcases hf with ⟨rfl, m, hm, hI⟩ | hf
      · exact ⟨hq, hc, ih m hm hI⟩
      · exact hf
theorem on_stackAny {f : Code × Pos → Bool} {Q : Bool → Shared → Prop} (hf : ∀ c p, calmC c = true → f (c, p) = false) (h : Q false s) : wpOn M A (do return (← stack).any f) Q E s := fun Γ p _ q => by
  show Q (((Γ.code, p) :: Γ.below).any f) s
  have e : ((Γ.code, p) :: Γ.below).any f = false := by
    rw [List.any_eq_false]
    intro x hx
    rcases List.mem_cons.mp hx with rfl | hx
    · rw [hf _ _ q.1]; exact Bool.false_ne_true
    · obtain ⟨c, p'⟩ := x
      rw [hf _ _ (q.2 _ hx)]; exact Bool.false_ne_true
  rw [e]; exact h
end

/-! the head, its last premise over calm stacks -/
noncomputable abbrev WalkOn (q : Program) (loose : List Str) (XP : (Str → Option Value) → Heap → Prop) (YP : World → Heap → Prop) (r : RowW) (d : DefRec) (kwd : List (Str × Expr)) : Prop :=
  ∀ (w : World) (s₀ s₁ : Shared) (mg mb : Str → Option Value), Ground q loose r.records XP w s₀ mg mb s₁.heap → YP w s₁.heap → ∀ (a : Addr) (o : Obj) (pm cd doc dV kV : Value), s₁.heap.get? a = some o →
    o.data = .func { docDef d.name d.params d.body d.scope pm cd doc with defaults := dV, kwdefaults := kV } → s₁.heap.CodeRec cd d.name → Dflts mg s₁.heap d.params kwd dV kV → mg d.name = some (.ref a) → s₁.gens = #[] →
    ∀ (args : List WData) (vals : List Value) (as : List Addr), r.claim.pre args = true → WData.layableAll args = true → ReadsAllW r.records (classAt s₀.heap) s₁.heap vals args as → WellAll w.params s₁.heap vals args → (∀ a ∈ as, (a == sysModules) = false) →
      wpOn (model r.prog w) callerA (call (.ref a) vals) (fun v s' => GoodWG r.claim (classAt s₀.heap) (ExcName.means s₀.heap) args s₁ (.ok (.ret v)) s')
        (fun e s' => GoodWG r.claim (classAt s₀.heap) (ExcName.means s₀.heap) args s₁ (.error e) s') s₁

theorem ends_on {prog : Program} {w : World} {t : Sem Fin} {s : Shared} {R : Result → Shared → Prop} (hreg : s.asleep)
    (h : wpOn (model prog w) callerA t (fun fin s' => ∃ f, fin = .done f ∧ (R (.ok f) s' ∧ leftWithCleanup s'.gens = false)) (fun e s' => R (.error e) s' ∧ leftWithCleanup s'.gens = false) s) :
    ∃ n r s' s'', runN (denote table) prog w n s ⟨t, .builtin "claim.caller" {}, default, []⟩ = .halted (outcomeOf r) s' ∧
      schedN (denote table) prog w n (.single s ⟨t, .builtin "claim.caller" {}, default, []⟩) = .halted (outcomeOf r) s' ∧ s'.forget = s''.forget ∧ R r s'' := by
  have h0 := h ⟨.builtin "claim.caller" {}, none, none, [], none⟩ default caller_in ⟨by decide +kernel, fun _ hx => nomatch hx⟩
  have h1 : Sem.wp (model prog w) ⟨.builtin "claim.caller" {}, none, none, [], none⟩ t
      (Sem.finPost (model prog w) ⟨.builtin "claim.caller" {}, none, none, [], none⟩ fun r s' => R r s' ∧ leftWithCleanup s'.gens = false)
      (fun e _ s' => R (.error e) s' ∧ leftWithCleanup s'.gens = false) default s :=
    Sem.wp_mono _ _ t (fun fin p' s' x => by obtain ⟨f, rfl, hf⟩ := x; exact hf) (fun _ _ _ x => x) default s h0
  obtain ⟨n, r, s₁, s₂, hs, hn, hfo, hR⟩ := wp_halts_full (M := model prog w) (R := R) hreg h1
  exact ⟨n, r, s₂, s₁, hn, hs, hfo, hR⟩

theorem callFrom_on {c : ClaimW} {tree : List Value → Sem PySem.Fin} {w : World} {s : Shared} {free : Addr → Prop} {gens : Prop} {kept : Heap → Prop} (hz : s.asleep) (hgens : s.gens = #[])
    (spec : ∀ args, c.pre args = true → WData.layableAll args = true → ∀ ord : List DictEntry → List DictEntry, (∀ l, (ord l).Perm l) →
      ∃ vs s₁, layAllW c.records (classAt s.heap) w.params ord args s = some (vs, s₁) ∧
        wpOn (model c.prog w) callerA (tree vs) (fun fin s' => ∃ f, fin = .done f ∧ (c.Ends s args vs s₁ (.ok f) s' ∧ s'.os = s.os ∧ AllBare s'.gens ∧ kept s'.heap))
          (fun e s' => c.Ends s args vs s₁ (.error e) s' ∧ s'.os = s.os ∧ AllBare s'.gens ∧ kept s'.heap) s₁) :
    c.CallFrom (fun vs => ⟨tree vs, .builtin "claim.caller" {}, default, []⟩) w free gens kept s := fun args hpre hlay ord hord => by
  obtain ⟨vs, s₁, hlaid, hcode⟩ := spec args hpre hlay ord hord
  have hal := layAllW_rest _ _ _ hlaid
  obtain ⟨k, res, s', s'', hrun, hsched, hfo, hcase, hos, hkp⟩ := ends_on (prog := c.prog) (w := w) (s := s₁) (R := fun r s' => c.Ends s args vs s₁ r s' ∧ s'.os = s.os ∧ kept s'.heap) (Shared.asleep_of_life hal.2.2.2 hz)
    (on_mono hcode (fun _ _ ⟨f, e, a, b, d, k⟩ => ⟨f, e, ⟨a, b, k⟩, leftWithCleanup_false_of_bare d⟩) fun _ _ ⟨a, b, d, k⟩ => ⟨⟨a, b, k⟩, leftWithCleanup_false_of_bare d⟩)
  obtain ⟨eh, _, _, eo, _⟩ := Shared.forget_eq hfo
  have hcase := hcase.congr eh
  have hkp : kept s'.heap := by rw [eh]; exact hkp
  rw [← eo] at hos
  have hlife : s'.heap.life = s.heap.life := (runN_life _ _ _ hrun).trans hal.2.2.2
  refine ⟨vs, s₁, hlaid, k, _, s', hsched, ?_, (fun _ i x hx => by rw [hgens] at hx; simp at hx), hkp, by rw [hlife], Shared.rest_eq hos⟩
  rcases hcase with ⟨v, rfl, d1, d2, d3, d4, d5⟩ | ⟨e, ob, cls, rfl, d1, d2, d3, d4, d5⟩
  · exact .inl ⟨v, rfl, d1, d2, d3, fun b o y _ => d4 b o y, d5⟩
  · exact .inr ⟨e, ob, cls, rfl, d1, d2, d3, d4, fun b o y _ => d5 b o y⟩

/-- the head's run, under a name of its own -/
noncomputable abbrev LeftM {α : Type} (p q : Program) (loose : List Str) (Xt : Shared → Bool) (Yf : Shared → α) (Ya : World → α) (N : Nat) : Prop := LeftO p q loose Xt Yf Ya N
theorem PySem.W.holds_open {r : OpenRow} {q : Program} {loose : List Str} {Xt : Shared → Bool} {XP : (Str → Option Value) → Heap → Prop} {α : Type} {Yf : Shared → α} {Ya : World → α} {YP : World → Heap → Prop} {d : DefRec} {kwd : List (Str × Expr)} {N : Nat}
    (left : LeftM r.prog q loose Xt Yf Ya N) (hY : ∀ w s, Yf s = Ya w → YP w s.heap) (hYk : ∀ w h h', YP w h → (∀ b o, h.get? b = some o → h'.get? b = some o) → YP w h')
    (hX : ∀ s, Xt s = true → XP (s.heap.nsMap mainGlobals) s.heap) (hXk : ∀ mg h h', XP mg h → (∀ b o, h.get? b = some o → h'.get? b = some o) → XP mg h')
    (hdef : defOf q r.name = some (d, kwd)) (hp : r.prog.theDef r.name = some (d.params, d.body, d.scope)) (hk : kwWritten? d.params.kwonlyargs d.params.kw_defaults = some kwd) (hRf : ∀ s, Xt s = true → RecFacts r.records s.heap) (hwr : (!r.writes || r.records.isEmpty) = true)
    (k1 : r.wellSaid = true) (ok : (chainsOk q && opensWell r.prog && (frees r.toRowW && r.within.isEmpty)) = true) (hb : r.prog.bare) (hw : r.toRowW.promised)
    (walk : WalkOn q loose XP YP r.toRowW d kwd) : r.Holds := by
  obtain ⟨ok, k5⟩ := Bool.and_eq_true_iff.mp ok
  obtain ⟨hch, o1⟩ := Bool.and_eq_true_iff.mp ok
  obtain ⟨k5, k6⟩ := Bool.and_eq_true_iff.mp k5
  obtain ⟨hsame, hu, ha, hap, hm⟩ := frees_parts k5
  refine ⟨k1, hw, ⟨hb, o1, by show r.toRowW.makers.map _ = []; rw [hm]; rfl⟩, hw.witness, fun w => ⟨(left.behind hX hch w).1, fun s' hs' => ?_⟩⟩
  obtain ⟨s₀, hf, hg0, s, hT, hz, hgens, hg, G00, y⟩ := (left.behind (XP := fun mg h => XP mg h ∧ RecFacts r.records h) (fun s hs => ⟨hX s hs, hRf s hs⟩) hch w).2 s' hs'
  have G0 : Ground q loose [] XP w s (s.heap.nsMap mainGlobals) (s.heap.nsMap builtinsNs) s.heap := ⟨G00.T, G00.B, G00.D, G00.TE, G00.TD, G00.W, G00.X.1, G00.cls, G00.has, G00.apart, G00.once, G00.K⟩
  have hgens : s.gens = #[] := Array.eq_empty_of_size_eq_zero (beq_iff_eq.mp hgens)
  have G := G00.X.2.ground G0
  refine ⟨s₀, hf, hg0, s, hT, (fun n hn => ?_), G00.X.2.1, G00.X.2.2.1, callFrom_on (c := r.claim) (tree := fun vs => (do match ← nsGet mainNs r.name with
      | some f => do ret (← PySem.call f vs)
      | none => unsupported "claim.caller:no-such-global")) hz hgens fun args hpre hlay ord hord => ?_⟩
  · obtain rfl : n = r.name := by split at hn <;> simp_all
    exact pinned_of_view hg G0 hdef hp hk
  obtain ⟨⟨vs, s₁⟩, hlaid⟩ := Option.isSome_iff_exists.mp (layAllW_isSome (P := w.params) (ord := ord) G.has args r.args s (pre_splitW hpre).1)
  have keeps := layAllW_keeps _ _ _ hlaid
  have hal := layAllW_rest _ _ _ hlaid
  obtain ⟨as, hrd, hin, hold⟩ := reads_layAllW hord _ _ _ hlaid hlay s₁.heap (fun _ _ e => e)
  have L : Laid r.records w s s₁ args vs as := ⟨⟨ord, hord, hlaid⟩, hrd, hin, hold, keeps, hal.1.trans hgens, hal.2.2.1⟩
  have G₁ := G.keeps hXk keeps
  obtain ⟨a, o, pm, cd, doc, dV, kV, h1, h2, h3, h4, h5⟩ := G₁.fn hdef
  have main := walk w s s₁ _ _ G₁ (hYk _ _ _ (hY w s y) keeps) a o pm cd doc dV kV h2 h3 h4 h5 (defOf_name hdef ▸ h1) L.gens args vs as hpre hlay L.reads L.well (L.low G.low)
  have hi := ident_freeW hu ha hap
  have hwi : r.claim.within = [] := List.isEmpty_iff.mp k6
  refine ⟨vs, s₁, hlaid, on_then (wpAny_nsGet G₁.T.g ?_)⟩
  rw [h1]
  refine on_bind (on_mono main (fun v s' g => on_pure ⟨_, rfl, ?_⟩) fun e s' g => ?_)
  · have z := g.laid (c := r.claim) hsame hwi hi L
    exact ⟨z.1, z.2.1, z.2.2, fun q => ⟨namesKept_of hT hg _ keeps g.2.1.old, noTable hwr q⟩⟩
  · have z := g.laid (c := r.claim) hsame hwi hi L
    exact ⟨z.1, z.2.1, z.2.2, fun q => ⟨namesKept_of hT hg _ keeps g.2.1.old, noTable hwr q⟩⟩

set_option maxHeartbeats 8000000 in
open_top hd for PySem.Challenge.rw_nz0290_02

theorem filled : (PySem.Challenge.rw_nz0290_02 = PySem.Challenge.rw_nz0290_02) ∧ (hd.heap_39 = hd.heap_39) := by
  k_fill
  w_top off
  exact ⟨rfl, rfl⟩
section
variable {prog : Program} {w : World} {A : Around} {E : Value → Shared → Prop} {s : Shared} {env : Env} {h₀ : Heap} {x : Str} {body : List Stmt} {Q : Flow → Shared → Prop}

/-- a for over a range of any step -/
theorem kst_rangeS {σ : Type} {r : Addr} {a₀ b₀ c₁ : Int} {t₀ u₀ v₀ : Tok} {n : Nat} {m₀ : Str → Option Value} (Led : σ → List (Addr × Obj)) (ps : σ → List (Str × Value)) (Facts : σ → Prop) (stored : List Str) (P : List Int → σ → Prop) (c₀ : σ)
    (hh : A.handled = none) (hr : IsRange s.heap r a₀ b₀ c₁ t₀ u₀ v₀) (hsmall : Builtin.Range.small a₀ b₀ c₁ = true) (hn : Builtin.Range.rangeSize a₀ b₀ c₁ = (n : Int)) (F : Fr h₀ env.locals s.heap m₀) (N : News h₀ env.locals s.heap (Led c₀)) (hf : Facts c₀) (hk : ∀ p ∈ ps c₀, m₀ p.1 = some p.2) (hp : P [] c₀)
    (turn : ∀ (c : σ) (pre : List Int) (k : Int) t (u : Str → Option Value) h tk own, k = a₀ + (pre.length : Int) * c₁ → pre.length < n → OwnOff own ((Led c₀).map (·.1)) → Facts c → P pre c →
      Fr h₀ env.locals h (fun y => if y = x then some (.int k t) else kstB (fun z => if stored.contains z then u z else m₀ z) (ps c) y) → News h₀ env.locals h (Led c ++ own) →
      wpAny (model prog w) A (execs body env) (InvPostN h₀ env.locals (KstS Led ps Facts x stored m₀ P (pre ++ [k])) own ((Led c₀).map (·.1)) { s with heap := h, toks := tk } Q) E { s with heap := h, toks := tk })
    (done : ∀ (c : σ) (u : Str → Option Value) h tk pre, pre.length = n → Facts c → P pre c → Fr h₀ env.locals h (fun y => if y = x then u y else kstB (fun z => if stored.contains z then u z else m₀ z) (ps c) y) → News h₀ env.locals h (Led c) → Q .next { s with heap := h, toks := tk }) :
    wpAny (model prog w) A (pyIter (.ref r)) (fun it s₂ => LoopAtV prog w A h₀ env x body Q E it s₂) E s := by
  refine wpAny_pyIter_range hr hsmall ?_
  have W : Walks prog w A s.heap.objs.size [s.heap.objs.size] [s.heap.objs.size] n (fun i v => i < n ∧ ∃ t, v = .int (a₀ + i * c₁) t)
      (fun i h => IsRangeIter h s.heap.objs.size (a₀ + (i : Nat) * c₁) ((n : Int) - (i : Nat)) c₁) := (Walks.range hh _ a₀ c₁ n).bound
  have hlen : ((List.range n).map fun (i : Nat) => a₀ + (i : Int) * c₁).length = n := by simp
  refine loop_invN (fun i m nx => KstS Led ps Facts x stored m₀ P (((List.range n).map fun (i : Nat) => a₀ + (i : Int) * c₁).take i) m nx) W ?_ ?_ ?_ ?_ (by show IsRangeIter _ _ _ _ _; rw [hn]; simpa using Heap.get?_push_size _ rfl) (F.push _) (fun p hp => ⟨Heap.get?_push_of_some _ (N p hp).1, (N p hp).2⟩) ⟨c₀, rfl, hf, hk, fun _ _ _ _ => rfl, by simpa using hp⟩ ?_ ?_
  · intro hm
    exact absurd F.ns.lt ((List.mem_singleton.mp hm) ▸ Nat.lt_irrefl _)
  · intro b hb
    rw [List.mem_singleton.mp hb]
    exact next_is_new F
  · intro p hp hI
    exact absurd (Heap.lt_size (N p hp).1) ((List.mem_singleton.mp hI) ▸ Nat.lt_irrefl _)
  · intro p hp hI
    exact absurd (Heap.lt_size (N p hp).1) ((List.mem_singleton.mp hI) ▸ Nat.lt_irrefl _)
  · rintro i v m₁ nx h tk own hi ⟨_, t, rfl⟩ _ hoff ⟨c, rfl, hf', h1, h2, hp'⟩ F₁ N₁
    have hk' : ((List.range n).map fun (i : Nat) => a₀ + (i : Int) * c₁)[i]? = some (a₀ + (i : Int) * c₁) := by simp [hi]
    have hs : ((List.range n).map fun (i : Nat) => a₀ + (i : Int) * c₁).take (i + 1) = ((List.range n).map fun (i : Nat) => a₀ + (i : Int) * c₁).take i ++ [a₀ + (i : Int) * c₁] := by rw [List.take_add_one, hk']; rfl
    have hlen' : (((List.range n).map fun (i : Nat) => a₀ + (i : Int) * c₁).take i).length = i := by rw [List.length_take, hlen]; lia
    rw [hs]
    exact turn c _ _ t m₁ h tk own (by rw [hlen']) (by rw [hlen']; exact hi) hoff hf' hp' (kst_fr h1 h2 F₁) N₁
  · rintro m₁ nx h tk ⟨c, rfl, hf', h1, h2, hp'⟩ F₁ N₁
    have hl : ((List.range n).map fun (i : Nat) => a₀ + (i : Int) * c₁).take n = (List.range n).map fun (i : Nat) => a₀ + (i : Int) * c₁ := List.take_of_length_le (Nat.le_of_eq hlen)
    rw [hl] at hp'
    exact done c m₁ h tk _ hlen hf' hp' (kst_frOut h1 h2 F₁) N₁
end

section
variable {prog : Program} {w : World} {A : Around} {E : Value → Shared → Prop} {s : Shared} {h₀ : Heap} {L : Addr} {m : Str → Option Value} {env : Env}
  {elt iter : Expr} {x y : Str} {px py : Pos} {scope : Scope} {cl : List (Str × Addr)} {pos spos : Pos}
open LCg

noncomputable def CompGo (prog : Program) (w : World) (A : Around) (h₀ : Heap) (L : Addr) (m : Str → Option Value) (env : Env) (elt : Expr) (x : Str) (scope : Scope) (cl : List (Str × Addr)) (Fin : Shared → List Value → List (Addr × Obj) → Prop) (E : Value → Shared → Prop) (xv : Value) (s₁ : Shared) : Prop :=
  wpAny (model prog w) A (pyIter xv) (fun it s₂ => ∃ I fp n P St S news, it = .ref I ∧ Walks prog w A I fp [I] n P St ∧ n ≤ sizeLine ∧ (∀ i h, St i h → ∃ o, h.get? I = some o) ∧
    (∀ i h h' o nw, St i h → h.get? I = some o → h'.get? I = some o → (∀ b o, h₀.get? b = some o → h'.get? b = some o) → News h₀ L h' nw → S nw → St i h') ∧ St 0 s₂.heap ∧ (∀ b ∈ fp, b < s₂.heap.objs.size) ∧
    Fr h₀ L s₂.heap m ∧ News h₀ L s₂.heap news ∧ L ≠ I ∧ h₀.get? I = none ∧ (∀ p ∈ news, p.1 ≠ I) ∧ S news ∧
    CompRest prog w A h₀ L m env elt x scope cl s₂ S P (Fin s₂) n 0 [] news) E s₁

theorem ListComp_G {Q : Value → Shared → Prop} (_F₀ : Fr h₀ L s.heap m)
    (hclos : closureFor scope env = pure cl) (hcell : ∀ y ∈ scope.names, y.2 ≠ .cell) (hkind : scope.kind = .function)
    (hnames : ∀ y ∈ scope.names, y.2 = .local → scope.names.lookup y.1 = some .local) (hx : scope.names.lookup x = some .local)
    (h : wpAny (model prog w) A (eval iter env) (fun xv s₁ => CompGo prog w A h₀ L m env elt x scope cl (fun s₂ => FinE h₀ L m s₂ Q) E xv s₁) E s)
    (hs : ∀ x, foldedSetIterable iter env x = pure x := by intro _; rfl) :
    wpAny (model prog w) A (eval (.ListComp elt [⟨.Name x px, iter, [], 0⟩] scope pos) env) Q E s := by
  rw [eval_ListComp]
  refine wpAny_comprehension_free (use := none) rfl hs hclos hkind hnames (wpAny_mono h (fun xv s₁ h₁ => ?_) fun _ _ e => e)
  refine wpAny_mono h₁ (fun it s₂ h₂ => ?_) fun _ _ e => e
  obtain ⟨I, fp, n, P, St, S, news, rfl, W, hsz, hIo, hSt, hst, hfp, F, N, hIL, hI₀, off, hS, R⟩ := h₂
  refine block_U W hsz hIo hSt hcell hkind hx hst hfp F N hIL hI₀ off hS R ?_
  intro D C h tk m' ys news' F' N' o1 hn hC₀ hD₀ hCL hDL hCD offC fin
  refine ⟨m', hn, fun h'' hs'' => fin D h'' tk (F'.change hs'' hCL hC₀) (fun p hp => ?_) o1⟩
  refine ⟨hs''.extBut _ _ ?_ (N' p hp).1, (N' p hp).2⟩
  rcases List.mem_cons.mp hp with rfl | hp
  · exact Ne.symm hCD
  · exact offC p hp

theorem Assign_ListComp_G {Q : Flow → Shared → Prop} (_F₀ : Fr h₀ L s.heap m) (hLe : env.locals = L)
    (hsw : swapsWith (.ListComp elt [⟨.Name x px, iter, [], 0⟩] scope pos) (some (.Name y py)) spos.line env = pure true)
    (hclos : closureFor scope env = pure cl) (hcell : ∀ z ∈ scope.names, z.2 ≠ .cell) (hkind : scope.kind = .function)
    (hnames : ∀ z ∈ scope.names, z.2 = .local → scope.names.lookup z.1 = some .local) (hx : scope.names.lookup x = some .local)
    (hy : env.kindOf y = some .local) (hp : (env.scope.kind == .class || (env.scope.kind == .module && env.locals != env.globals)) = false)
    (h : wpAny (model prog w) A (eval iter env) (fun xv s₁ => CompGo prog w A h₀ L m env elt x scope cl (fun s₂ => FinA h₀ L m s₂ y Q) E xv s₁) E s)
    (hs : ∀ x, foldedSetIterable iter env x = pure x := by intro _; rfl) :
    wpAny (model prog w) A (exec (.Assign [.Name y py] (.ListComp elt [⟨.Name x px, iter, [], 0⟩] scope pos) spos) env) Q E s := by
  subst hLe
  rw [exec_Assign_Name_used _ _ _ _ hsw]
  refine wpAny_bind (wpAny_standAt (wpAny_bind ?_))
  show wpAny _ A (do let _ ← comprehension (.ListComp elt [⟨.Name x px, iter, [], 0⟩] scope pos) scope env _ (newList []) false (eval iter env) (some (assign (.Name y py) env))) _ _ s
  refine wpAny_bind (wpAny_mono (wpAny_comprehension_free (use := some (assign (.Name y py) env)) (Q := fun _ s' => Q .next s') rfl hs hclos hkind hnames
    (wpAny_mono h (fun xv s₁ h₁ => ?_) fun _ _ e => e)) (fun _ s' hq => wpAny_pure (wpAny_pure hq)) fun _ _ e => e)
  refine wpAny_mono h₁ (fun it s₂ h₂ => ?_) fun _ _ e => e
  obtain ⟨I, fp, n, P, St, S, news, rfl, W, hsz, hIo, hSt, hst, hfp, F, N, hIL, hI₀, off, hS, R⟩ := h₂
  refine block_U W hsz hIo hSt hcell hkind hx hst hfp F N hIL hI₀ off hS R ?_
  intro D C h' tk m' ys news' F' N' o1 hn hC₀ hD₀ hCL hDL hCD offC fin
  show wpAny _ A (assign (.Name y py) env (.ref D)) _ _ _
  refine wpAny_assign_Name (wpAny_storeName_local hy F'.ns (fun h₂ hn₂ hs₂ => ?_) hp)
  have hL₀ : h₀.get? env.locals = none := Heap.get?_none_of_le F'.above
  have F₂ : Fr h₀ env.locals h₂ (fun z => if z = y then some (.ref D) else m z) := ⟨hn₂, fun b o e => hs₂.extBut b o (fun q => by rw [q, hL₀] at e; cases e) (F'.keep b o e), F'.above⟩
  refine ⟨m', hn.sameBut hs₂ hCL, fun h'' hs'' => fin D h'' _ (F₂.change hs'' hCL hC₀) (fun p hp => ?_) o1⟩
  have z : h₂.get? p.1 = some p.2 := hs₂.extBut _ _ (N' p hp).2.1 (N' p hp).1
  refine ⟨hs''.extBut _ _ ?_ z, (N' p hp).2⟩
  rcases List.mem_cons.mp hp with rfl | hp
  · exact Ne.symm hCD
  · exact offC p hp

variable {Fin : Shared → List Value → List (Addr × Obj) → Prop} {news : List (Addr × Obj)} {s₁ : Shared}
theorem comp_listB {ax : Addr} {its : Array Value} (hh : A.handled = none) (F : Fr h₀ L s₁.heap m) (N : News h₀ L s₁.heap news) (hl : SrcAt h₀ ax its news) (hsz : its.size ≤ sizeLine)
    (h : ∀ g, CompRest prog w A h₀ L m env elt x scope cl { s₁ with heap := g } (SrcAt h₀ ax its) (fun i v => its[i]? = some v) (Fin { s₁ with heap := g }) its.size 0 [] news) :
    CompGo prog w A h₀ L m env elt x scope cl Fin E (.ref ax) s₁ := by
  have hl' := hl.list F.keep N
  have hlt : ax < s₁.heap.objs.size := by obtain ⟨_, e, _⟩ := hl'; exact Heap.lt_size e
  refine wpAny_pyIter_list hl' ?_
  have up : ∀ b o, s₁.heap.get? b = some o → (s₁.heap.push { cls := .type "list_iterator", data := .fields #[.ref ax, .int 0 0] }).get? b = some o := fun b o e => Heap.get?_push_of_some _ e
  refine ⟨_, _, its.size, _, _, SrcAt h₀ ax its, news, rfl, Walks.list hh s₁.heap.objs.size ax (Nat.ne_of_lt hlt) its, hsz, (fun i h st => by obtain ⟨o, e, _⟩ := st.1; exact ⟨o, e⟩), list_st, ⟨⟨_, Heap.get?_push_size _ rfl, rfl, rfl⟩, hl'.push _⟩, (fun b hb => ?_),
      (F.keeps up), (N.grown up), (Nat.ne_of_lt F.ns.lt), (next_is_new F), (fun p hp => Nat.ne_of_lt (Heap.lt_size (N p hp).1)), hl, h _⟩
  show b < (s₁.heap.push _).objs.size
  rw [Heap.size_push]
  rcases List.mem_cons.mp hb with rfl | hb
  · exact Nat.lt_succ_self _
  · rw [List.mem_singleton.mp hb]; exact Nat.lt_succ_of_lt hlt

theorem comp_range {r : Addr} {a b c : Int} {t u v : Tok} {n : Nat} (hh : A.handled = none) (F : Fr h₀ L s₁.heap m) (N : News h₀ L s₁.heap news) (hr : IsRange s₁.heap r a b c t u v) (hsm : Builtin.Range.small a b c = true) (hn : Builtin.Range.rangeSize a b c = ((n : Nat) : Int)) (hsz : n ≤ sizeLine)
    (h : ∀ g, CompRest prog w A h₀ L m env elt x scope cl { s₁ with heap := g } (fun _ => True) (fun i v => i < n ∧ ∃ t, v = .int (a + (i : Int) * c) t) (Fin { s₁ with heap := g }) n 0 [] news) :
    CompGo prog w A h₀ L m env elt x scope cl Fin E (.ref r) s₁ := by
  refine wpAny_pyIter_range hr hsm ?_
  have up : ∀ b' o, s₁.heap.get? b' = some o → (s₁.heap.push { cls := .type "range_iterator", data := .fields #[rawInt a, rawInt (Builtin.Range.rangeSize a b c), rawInt c] }).get? b' = some o := fun b o e => Heap.get?_push_of_some _ e
  refine ⟨_, _, n, _, _, (fun _ => True), news, rfl, (Walks.range hh s₁.heap.objs.size a c n).bound, hsz, (fun i h st => ⟨_, st⟩), ?_, (by show IsRangeIter _ _ _ _ _; rw [hn]; simpa using Heap.get?_push_size _ rfl), (fun b hb => ?_),
      (F.keeps up), (N.grown up), (Nat.ne_of_lt F.ns.lt), (next_is_new F), (fun p hp => Nat.ne_of_lt (Heap.lt_size (N p hp).1)), trivial, h _⟩
  · intro i h h' o nw st e e' _ _ _
    have st' : h.get? _ = some _ := st
    show h'.get? _ = some _
    rw [e', ← e]; exact st'
  · rw [List.mem_singleton.mp hb]
    show s₁.heap.objs.size < (s₁.heap.push _).objs.size
    rw [Heap.size_push]; exact Nat.lt_succ_self _

/-- the elements one by one: what each hands back, the ledger as it was -/
theorem comp_each {S : List (Addr × Obj) → Prop} {P : Nat → Value → Prop} {Fi : List Value → List (Addr × Obj) → Prop} {n : Nat} (g : Nat → Value → Prop)
    (turn : ∀ i v I oI C oC D m₂ ys h tk (E' : Value → Shared → Prop), i < n → P i v → NsObj oC m₂ → m₂ x = some v → Fr h₀ L h m → News h₀ L h ((I, oI) :: (C, oC) :: (D, lst ys) :: news) → Off3 I C D news → ((@Ne Nat I C) ∧ (@Ne Nat I D) ∧ (@Ne Nat C D)) →
      wpAny (model prog w) A (eval elt (compEnvC scope cl C env)) (CompEnd h₀ L m { s with heap := h, toks := tk } I oI C oC D (lst ys) (fun _ => True) (fun y news' => news' = news ∧ g i y)) E' { s with heap := h, toks := tk })
    (hS : S news) (fin : ∀ ys, ys.length = n → (∀ i y, ys[i]? = some y → g i y) → Fi ys news) : CompRest prog w A h₀ L m env elt x scope cl s S P Fi n 0 [] news := by
  have key : ∀ (j i : Nat) (ys : List Value), i + j = n → ys.length = i → (∀ i y, ys[i]? = some y → g i y) → CompRest prog w A h₀ L m env elt x scope cl s S P Fi j i ys news := by
    intro j
    induction j with
    | zero =>
      intro i ys hi hl hy
      exact CompRest.zero (fin ys (by lia) hy)
    | succ j ih =>
      intro i ys hi hl hy
      refine CompRest.succ ?_
      intro v I oI C oC D m₂ h tk E' hv hC hx F N off ne
      refine wpAny_mono (turn i v I oI C oC D m₂ ys h tk E' (by lia) hv hC hx F N off ne) (fun y s₂ hq => ?_) fun _ _ e => e
      obtain ⟨h', tk', nw, e, F', N', off', _, rfl, hg⟩ := hq
      refine ⟨h', tk', nw, e, F', N', off', hS, ih (i + 1) _ (by lia) (by simp [hl]) ?_⟩
      intro i' y' h'
      rw [List.getElem?_append] at h'
      split at h'
      · exact hy _ _ h'
      · have : i' - ys.length = 0 := by
          cases hc : i' - ys.length with
          | zero => rfl
          | succ k => rw [hc] at h'; simp at h'
        rw [this] at h'
        simp at h'
        subst h'
        have e2 : i' = i := by lia
        rw [e2]; exact hg
  exact key n 0 [] (by lia) rfl (by simp)
end

theorem intsAre_of {f : Nat → Int} : ∀ {n : Nat} {ys : List Value}, ys.length = n → (∀ (i : Nat) (y : Value), ys[i]? = some y → ∃ t, y = Value.int (f i) t) → IntsAre ys ((List.range n).map f) := by
  intro n
  induction n with
  | zero => intro ys hl _; have : ys = [] := List.eq_nil_of_length_eq_zero hl; subst this; exact .nil
  | succ n ih =>
    intro ys hl hy
    have hne : ys ≠ [] := by intro e; rw [e] at hl; simp at hl
    obtain ⟨zs, z, e⟩ : ∃ zs z, ys = zs ++ [z] := ⟨_, _, (List.dropLast_concat_getLast hne).symm⟩
    subst e
    have hd : zs.length = n := by simpa using hl
    obtain ⟨t, ht⟩ := hy n z (by simp [← hd])
    rw [List.range_succ, List.map_append, ht]
    refine IntsAre.append (ih hd fun i y h => hy i y ?_) (.cons _ _ .nil)
    have hi : i < zs.length := by
      rcases Nat.lt_or_ge i zs.length with h1 | h1
      · exact h1
      · rw [List.getElem?_eq_none h1] at h; cases h
    rw [List.getElem?_append_left hi]; exact h

theorem small_step {b c : Int} (hb : 0 ≤ b) (hb' : b < 2 ^ 40) (hc : 1 ≤ c) (hc' : c < 2 ^ 20) : Builtin.Range.small 0 b c = true := by
  have h1 : (b + c - 1) / c ≤ b + c - 1 := Int.ediv_le_self _ (by lia)
  have h2 : 0 ≤ (b + c - 1) / c := Int.ediv_nonneg (by lia) (by lia)
  have h3 : (b + c - 1) / c * c ≤ b + c - 1 := Int.ediv_mul_le _ (by lia)
  unfold Builtin.Range.small
  rw [rangeSize_pos hc hb]
  simp only [Builtin.Range.rangeFitsLong, Bool.and_eq_true, Bool.or_eq_true, decide_eq_true_eq, beq_iff_eq]
  have : (c > 0) := by lia
  simp only [this, if_true]
  refine ⟨⟨⟨?_, ?_⟩, ?_⟩, ?_⟩ <;> first | lia | (refine Or.inr ?_; rw [Bool.and_eq_true, decide_eq_true_eq, decide_eq_true_eq]; lia)

theorem clip_slice {ks : List Int} {k c : Int} {i m : Nat} (hk : k = (i : Int)) (hc : c = (m : Int)) : List.take (clipAt ks.length (k + c) - clipAt ks.length k) (List.drop (clipAt ks.length k) ks) = (ks.drop i).take m := by
  subst hk; subst hc
  rw [show ((i : Int) + (m : Int)) = ((i + m : Nat) : Int) by lia, clipAt_nat, clipAt_nat]
  rcases Nat.lt_or_ge i ks.length with h | h
  · rw [Nat.min_eq_left (Nat.le_of_lt h)]
    rcases Nat.lt_or_ge (i + m) ks.length with h2 | h2
    · rw [Nat.min_eq_left (Nat.le_of_lt h2), Nat.add_sub_cancel_left]
    · rw [Nat.min_eq_right h2, List.take_of_length_le (by simp), List.take_of_length_le (by simp; lia)]
  · rw [Nat.min_eq_right h, List.drop_of_length_le (Nat.le_refl _), List.drop_of_length_le h]; simp

section
variable {M : Model} {A : Around} {E : Value → Shared → Prop} {s : Shared} {env : Env}
theorem on_execs_cons {st rest} {Q : Flow → Shared → Prop} (h : wpOn M A (exec st env) (fun f s' => match f with | .next => wpOn M A (execs rest env) Q E s' | f => Q f s') E s) : wpOn M A (execs (st :: rest) env) Q E s := by
  rw [execs_cons]
  refine on_bind (on_mono h (fun f s' h' => ?_) fun _ _ x => x)
  cases f <;> first | exact h' | exact on_pure h'
theorem on_execs_any {st rest} {Q : Flow → Shared → Prop} (h : wpAny M A (exec st env) (fun f s' => match f with | .next => wpOn M A (execs rest env) Q E s' | f => Q f s') E s) : wpOn M A (execs (st :: rest) env) Q E s := on_execs_cons (on_any h)
theorem on_execs_nil {Q : Flow → Shared → Prop} (h : Q .next s) : wpOn M A (execs [] env) Q E s := on_pure h
theorem on_If {test body orelse pos} {Q : Flow → Shared → Prop}
    (h : wpAny M A (isTrue test env (eval test env)) (fun b s₂ => if b = true then wpOn M A (execs body env) Q E s₂ else wpOn M A (execs orelse env) Q E s₂) E s) : wpOn M A (exec (.If test body orelse pos) env) Q E s := by
  rw [exec_If]
  refine on_bind (on_standAt (on_then (wpAny_mono h (fun b s₂ h₂ => ?_) fun _ _ x => x)))
  cases b <;> exact h₂
theorem on_Return {e pos} {Q : Flow → Shared → Prop} (h : wpOn M A (eval e env) (fun v => Q (.ret v)) E s) : wpOn M A (exec (.Return (some e) pos) env) Q E s := by
  rw [exec_Return_some]
  exact on_bind (on_standAt (on_bind (on_mono h (fun _ _ x => on_pure x) fun _ _ x => x)))
theorem on_Assign {x pos' value pos} {Q : Flow → Shared → Prop} (h : wpOn M A (eval value env) (fun v s₁ => wpAny M A (storeName env x v) (fun _ => Q .next) E s₁) E s)
    (hs : swapsWith value (some (.Name x pos')) pos.line env = pure false := by rfl) : wpOn M A (exec (.Assign [.Name x pos'] value pos) env) Q E s := by
  rw [exec_Assign_Name env x pos' value pos hs]
  exact on_bind (on_standAt (on_bind (on_mono h (fun v s₁ h₁ => on_bind (on_standAt (on_then (wpAny_bindName (wpAny_mono h₁ (fun _ _ x => on_pure x) fun _ _ x => x))))) fun _ _ x => x)))
theorem on_Expr {e pos} {Q : Flow → Shared → Prop} (h : wpOn M A (eval e env) (fun v s' => v = .none ∧ Q .next s') E s)
    (hi : interactive env = false := by rfl) (hs : swapsWith e none pos.line env = pure false := by rfl) : wpOn M A (exec (.Expr e pos) env) Q E s := by
  rw [exec_Expr env e pos hi hs]
  refine on_bind (on_standAt (on_bind (on_mono h (fun v s' h' => ?_) fun _ _ x => x)))
  obtain ⟨rfl, h'⟩ := h'
  rw [dropValue_plain (fun a e => by cases e)]
  exact on_pure h'
theorem on_spliced_nil {Q : List Value → Shared → Prop} (h : Q [] s) : wpOn M A (spliced []) Q E s := on_pure h
theorem on_spliced_cons {x : Sem Value} {rest : List (Bool × Sem Value)} {Q : List Value → Shared → Prop}
    (h : wpOn M A x (fun v s₁ => wpOn M A (spliced rest) (fun vs s₂ => Q (v :: vs) s₂) E s₁) E s) : wpOn M A (spliced ((false, x) :: rest)) Q E s := by
  rw [spliced]
  refine on_bind (on_mono h (fun v s₁ h₁ => ?_) fun _ _ x => x)
  simp only [Bool.false_eq_true, if_false]
  exact on_bind (on_pure (on_bind (on_holding (on_mono h₁ (fun vs s₂ h₂ => on_pure h₂) fun _ _ x => x))))
theorem on_evalArgs {f : Value} {x : Sem Value} {rest : List (Bool × Sem Value)} {Q : Args → Shared → Prop}
    (h : wpOn M A (spliced ((false, x) :: rest)) (fun vs s' => Q ⟨vs, []⟩ s') E s) : wpOn M A (evalArgs f true ((false, x) :: rest) []) Q E s := by
  unfold evalArgs
  show wpOn M A (spliced ((false, x) :: rest) >>= _) Q E s
  exact on_bind (on_mono h (fun vs s' h' => on_holding (on_bind (on_pure (on_bind (on_pure (on_pure h')))))) fun _ _ x => x)
theorem on_evalArgs0 {f : Value} {Q : Args → Shared → Prop} (h : Q ⟨[], []⟩ s) : wpOn M A (evalArgs f true [] []) Q E s := on_any (evalArgs_nil3 h)
theorem on_keep {α : Type} {vs : List Value} {m : Sem α} {Q : α → Shared → Prop} (h : wpOn M A m Q E s) : wpOn M A (m.keep vs) Q E s := fun Γ p hΓ q => by rw [Sem.wp_keep]; exact h Γ p hΓ q
theorem on_rest {t : Sem Value} {Q : Value → Shared → Prop} (h : wpOn M A t Q E s) : wpOn M A (t >>= fun r => holding [r] point >>= fun _ => pure r) Q E s :=
  on_bind (on_mono h (fun _ _ hr => on_bind (on_holding (on_point (on_pure hr)))) fun _ _ x => x)
/-- a call of a built-in or of a type -/
theorem on_callWith_m {pos : Pos} {f : Value} {first : List Value} {args : List (Bool × Sem Value)} {Q : Value → Shared → Prop} (hf : keeperOf f = pure .machine) (hplain : args.any (·.1) = false)
    (h : wpOn M A (evalArgs f true args []) (fun a s₁ => wpOn M A (call f (first ++ a.pos) a.kw) Q E s₁) E s) : wpOn M A (callWith pos f first args []) Q E s := by
  unfold callWith
  refine on_bind (on_holding (on_mono h (fun a s₁ h₁ => on_bind (on_standAt ?_)) fun _ _ x => x))
  simp only [hplain, List.any_nil, Bool.or_false, hf]
  exact on_bind (on_pure (on_rest h₁))
/-- a call of a def -/
theorem on_callWith_f {pos : Pos} {a : Addr} {o : Obj} {fd : FuncData} {first : List Value} {args : List (Bool × Sem Value)} {Q : Value → Shared → Prop} (hd : o.data = .func fd) (hplain : args.any (·.1) = false)
    (h : wpOn M A (evalArgs (.ref a) true args []) (fun x s₁ => s₁.heap.get? a = some o ∧ wpOn M A (call (.ref a) (first ++ x.pos) x.kw) Q E s₁) E s) : wpOn M A (callWith pos (.ref a) first args []) Q E s := by
  unfold callWith
  refine on_bind (on_holding (on_mono h (fun x s₁ h₁ => on_bind (on_standAt ?_)) fun _ _ x => x))
  simp only [hplain, List.any_nil, Bool.or_false]
  have k : wpAny M A (keeperOf (.ref a)) (fun k s' => k = .frame ∧ s' = s₁) E s₁ := by
    unfold keeperOf
    refine wpAny_bind (wpAny_load h₁.1 ?_)
    rw [hd]; exact wpAny_pure ⟨rfl, rfl⟩
  refine on_then (wpAny_mono k (fun k s' hk => ?_) fun _ _ x => x)
  obtain ⟨rfl, rfl⟩ := hk
  dsimp only
  split
  · exact on_rest h₁.2
  · refine on_rest ?_
    unfold callMarked
    exact on_keep h₁.2
theorem on_Call {f : Value} {x : Str} {px pos : Pos} {args : List Expr} {Q : Value → Shared → Prop}
    (h : wpAny M A (eval (.Name x px) env) (fun f s₁ => wpOn M A (callWith pos f [] (backTo pos (starEach args env)) []) Q E s₁) E s) :
    wpOn M A (eval (.Call (.Name x px) args [] pos) env) Q E s := on_then (f := fun f => callWith pos f [] (backTo pos (starEach args env)) []) h
theorem on_method {o : Expr} {name : Str} {apos pos : Pos} {args : List Expr} {pl : Sem Bool} {Q : Value → Shared → Prop}
    (h : wpAny M A (eval o env) (fun ov s₁ => wpAny M A (getMethod ov name pl) (fun fx s₂ => wpOn M A (callWith pos fx.1 fx.2 (backTo pos (starEach args env)) []) Q E s₂) E s₁) E s)
    (he : eval (.Call (.Attribute o name apos) args [] pos) env = (do
      let ov ← eval o env
      standAt apos.atName
      let (f, first) ← holding [ov] (getMethod ov name pl)
      callWith pos f first (backTo pos (starEach args env)) []) := by rfl) :
    wpOn M A (eval (.Call (.Attribute o name apos) args [] pos) env) Q E s := by
  rw [he]
  exact on_then (wpAny_mono h (fun ov s₁ h₁ => on_bind (on_standAt (on_then (wpAny_holding (wpAny_mono h₁ (fun fx s₂ h₂ => h₂) fun _ _ x => x))))) fun _ _ x => x)
end

/-- nothing is raised -/
noncomputable abbrev noE : Value → Shared → Prop := fun _ _ => False
section
variable {prog : Program} {w : World} {A : Around} {s : Shared} {env : Env}
theorem on_runOwn {M : Model} {c : Code} {Q : Flow → Shared → Prop} (hc : codeOn M (A.mark none) c (fun r s' => match r with | .ok f => Q f s' | .error _ => False) s) (hq : calmC c = true) : wpOn M A (runOwn c env none) Q noE s := by
  unfold runOwn
  exact on_onRaise (on_run (codeOn_mono hc fun r s' x => by cases r with | ok f => exact x | error e => exact x.elim) hq)
theorem on_noted {α : Type} {t : Sem α} {k : Value → Sem Unit} {Q : α → Shared → Prop} {E : Value → Shared → Prop} (h : wpOn (model prog w) A t Q noE s) : wpOn (model prog w) A (t.onRaise k) Q E s :=
  on_onRaise (on_mono h (fun _ _ x => x) fun _ _ x => x.elim)
theorem on_While {test : Expr} {body : List Stmt} {pos : Pos} {Q : Flow → Shared → Prop} (I : Nat → Shared → Prop)
    (turn : ∀ n s, I n s → wpAny (model prog w) A (isTrue test env (eval test env)) (fun b s₂ => if b = true then wpOn (model prog w) A (execs body env)
      (fun f s₃ => match f with | .ret v => Q (.ret v) s₃ | .brk => Q .next s₃ | _ => ∃ m, m < n ∧ I m s₃) noE s₂ else Q .next s₂) noE s)
    (n : Nat) (h : I n s) : wpOn (model prog w) A (exec (.While test body [] pos) env) Q noE s := by
  rw [exec_While]
  refine on_bind (on_standAt (on_runOwn (codeOn_turns rfl rfl I (fun n s' hi => ?_) n h) rfl))
  show wpOn _ A ((whileTurn test body [] env).onRaise (fun x => do noteFrame x env; theTreesLotGoes x)) _ _ s'
  refine on_noted ?_
  unfold whileTurn
  refine on_then (wpAny_mono (turn n s' hi) (fun b s₂ h₂ => ?_) fun _ _ x => x)
  cases b with
  | false => exact on_bind (on_execs_nil (on_pure h₂))
  | true =>
    refine on_bind (on_mono h₂ (fun f s₃ h₃ => ?_) fun _ _ x => x)
    cases f with
    | next => exact on_pure (.inl ⟨rfl, h₃⟩)
    | cont => exact on_pure (.inl ⟨rfl, h₃⟩)
    | brk => exact on_pure h₃
    | ret v => exact on_pure h₃
theorem on_For {x : Str} {px : Pos} {iter : Expr} {pos : Pos} {body : List Stmt} {Q : Flow → Shared → Prop} (I : Value → Nat → Shared → Prop)
    (turn : ∀ it n s, I it n s → wpAny (model prog w) A (pyNext it) (fun r s₂ => match r with
      | none => Q .next s₂
      | some v => wpAny (model prog w) A (storeName env x v) (fun _ s₃ => wpOn (model prog w) A (execs body env) (fun f s₄ => match f with | .ret v => Q (.ret v) s₄ | .brk => Q .next s₄ | _ => ∃ m, m < n ∧ I it m s₄) noE s₃) noE s₂) noE s)
    (h : wpAny (model prog w) A (eval iter env) (fun v s₁ => wpAny (model prog w) A (pyIter v) (fun it s₂ => ∃ n, I it n s₂) noE s₁) noE s)
    (hs : ∀ x, foldedSetIterable iter env x = pure x := by intro _; rfl) (ht : ∀ it v, letOwnedTupleGo (.Name x px) it v = pure () := by intro _ _; rfl) :
    wpOn (model prog w) A (exec (.For (.Name x px) iter body [] pos) env) Q noE s := by
  rw [exec_For]
  refine on_bind (on_standAt (on_then (wpAny_mono h (fun v s₁ h₁ => ?_) fun _ _ x => x)))
  refine on_then (wpAny_of_eq (hs v) (on_bind (on_standAt (on_then (wpAny_holding (wpAny_mono h₁ (fun it s₂ h₂ => ?_) fun _ _ x => x))))))
  obtain ⟨n, h₂⟩ := h₂
  refine on_runOwn (codeOn_turns rfl rfl (I it) (fun n s' hi => ?_) n h₂) rfl
  show wpOn _ A ((forTurn (.Name x px) it body [] env).onRaise (fun x => do noteFrame x env; theTreesLotGoes x)) _ _ s'
  refine on_noted ?_
  unfold forTurn
  refine on_bind (on_standAt (on_bind (on_noted (on_any (wpAny_mono (turn it n s' hi) (fun r s₃ h₃ => ?_) fun _ _ x => x)))))
  cases r with
  | none => exact on_pure (.inr ⟨rfl, rfl, codeOn_any (codeAny_block (wpAny_execs_nil h₃))⟩)
  | some v =>
    refine on_then (wpAny_of_eq (ht it v) (on_then (wpAny_assign_Name (wpAny_mono h₃ (fun _ s₄ h₄ => on_bind (on_mono h₄ (fun f s₅ h₅ => ?_) fun _ _ x => x)) fun _ _ x => x))))
    cases f with
    | next => exact on_pure (.inl ⟨rfl, h₅⟩)
    | cont => exact on_pure (.inl ⟨rfl, h₅⟩)
    | brk => exact on_pure h₅
    | ret v => exact on_pure h₅
end

section
variable {prog : Program} {w : World} {A : Around} {s : Shared}
theorem codeOn_func {body : List Stmt} {env : Env} {R : Result → Shared → Prop} (h : wpOn (model prog w) (A.deeper env) (execs body env) (fun f s' => R (.ok (.ret (match f with | .ret v => v | _ => .none))) s') noE s) :
    codeOn (model prog w) A (.func body env) R s := by
  refine codeOn_tree ?_
  show wpOn _ (A.deeper env) (do point; match ← (execs body env).onRaise (leaving env) with | .ret v => ret v | _ => ret .none) _ _ s
  refine on_bind (on_point (on_bind (on_noted (on_mono h (fun f s' h' => ?_) fun _ _ x => x))))
  cases f <;> exact on_pure h'
theorem codeOn_def {R : Result → Shared → Prop} {a : Addr} {o : Obj} {fd : FuncData} {body : List Stmt} {args : Args} {binds : List (Str × Value)}
    (hroom : A.depth < recursionLimit) (ho : s.heap.get? a = some o) (hdata : o.data = .func fd) (hlim : s.heap.NoLimit) (hcd : s.heap.CodeRec fd.code fd.qualname)
    (hbody : fd.body = .stmts body) (hbind : BindsTo s fd args binds)
    (hcell : ∀ x ∈ fd.scope.names, x.2 ≠ .cell) (hloc : ∀ x ∈ binds, fd.scope.names.lookup x.1 = some .local)
    (hco : fd.scope.isCoroutine = false) (hgen : fd.scope.isGenerator = false) (hk : fd.scope.kind = .function)
    (h : ∀ h₀, h₀.Ns s.heap.objs.size (fun x => binds.reverse.lookup x) → (∀ b o, s.heap.get? b = some o → h₀.get? b = some o) →
      wpOn (model prog w) (A.deeper (callEnv fd s.heap.objs.size a)) (execs body (callEnv fd s.heap.objs.size a)) (fun f s' => R (.ok (.ret (match f with | .ret v => v | _ => .none))) s') noE
        { s with heap := h₀, toks := s.toks + binds.length }) :
    codeOn (model prog w) A (.call (.ref a) args) R s := by
  refine codeOn_tree ?_
  show wpOn _ A.in1 (callAny (.ref a) args) _ _ s
  simp only [callAny]
  refine on_then (wpAny_load ho ?_)
  obtain ⟨c, oc, vs, tq, hc, hoc, hdc, hq⟩ := hcd
  simp only [hdata, callFunction, hco, hgen, hbody, hc]
  refine on_then (m := field (.ref c) 1) (wpAny_field hoc hdc hq (on_bind (on_pure (on_then (hbind _ _ _ _ ?_)))))
  refine on_then (wpAny_newFunctionEnv hcell hloc (fun h₀ hns₀ hsb₀ => ?_) hk)
  refine on_then (wpAny_enterFrame (hlim.fresh _ hsb₀) hroom (on_pure ⟨rfl, rfl, ?_⟩))
  have fin := codeOn_func (R := R) (h h₀ hns₀ fun b o e => hsb₀.extBut b o (Nat.ne_of_lt (Heap.lt_size e)) (Heap.get?_push_of_some _ e))
  unfold callEnv at fin
  rw [hc] at fin
  exact fin
end

namespace BA
theorem mro : mroOf (.type "bytearray") = pure [.type "bytearray", .type "object"] := by rw [mroOf_type]; kernel_rfl
theorem lookup_new : typeLookup (.type "bytearray") "__new__" = pure (some (.builtin "bytearray.__new__")) := by rw [typeLookup_type, builtinLookup_eq_fast]; kernel_rfl
theorem slot_init : Slot "bytearray" "__init__" "bytearray.__init__" :=
  .of (owner := "bytearray") (n := "__init__") (by rw [typeLookup_type, builtinLookup_eq_fast]; kernel_rfl) (by decide +kernel) (by decide +kernel) (by decide +kernel) (by first | exact .inl (by decide +kernel) | exact .inr (by decide +kernel)) (by rw [isSubtype_type]; kernel_rfl)
theorem slot_append : Slot "bytearray" "append" "bytearray.append" :=
  .of (owner := "bytearray") (n := "append") (by rw [typeLookup_type, builtinLookup_eq_fast]; kernel_rfl) (by decide +kernel) (by decide +kernel) (by decide +kernel) (by first | exact .inl (by decide +kernel) | exact .inr (by decide +kernel)) (by rw [isSubtype_type]; kernel_rfl)
theorem slot_extend : Slot "bytearray" "extend" "bytearray.extend" :=
  .of (owner := "bytearray") (n := "extend") (by rw [typeLookup_type, builtinLookup_eq_fast]; kernel_rfl) (by decide +kernel) (by decide +kernel) (by decide +kernel) (by first | exact .inl (by decide +kernel) | exact .inr (by decide +kernel)) (by rw [isSubtype_type]; kernel_rfl)
theorem made : Bind.madeBy (.type "bytearray") = pure (some "bytearray.__new__") := madeBy_type mro lookup_new (by decide +kernel)
theorem sub_self : isSubtype (.type "bytearray") (.type "bytearray") = pure true := by rw [isSubtype_type]; kernel_rfl
theorem typeCall : checkTypeCall "bytearray" ⟨[], []⟩ = pure () := by kernel_rfl
theorem newCall : checkBuiltinCall "bytearray.__new__" ⟨[.type "bytearray"], []⟩ = pure () := by kernel_rfl
theorem entry_new : entryFor table "bytearray.__new__" = some Builtin.«list.__new__» :=
  entryFor_alias (id' := "list.__new__") (by rw [fastTable_eq_tree]; kernel_rfl) (by first | rfl | decide +kernel) (by decide +kernel) (by rw [fastTable_eq_tree]; kernel_rfl)
theorem entry_init : entryFor table "bytearray.__init__" = some Builtin.«bytearray.__init__» := entryFor_of_tree (by kernel_rfl)
theorem entry_append : entryFor table "bytearray.append" = some Builtin.«bytearray.append» := entryFor_of_tree (by kernel_rfl)
theorem entry_extend : entryFor table "bytearray.extend" = some Builtin.«bytearray.extend» := entryFor_of_tree (by kernel_rfl)
theorem plain_new : plainId "bytearray.__new__" = true := by decide +kernel
theorem args_init (a : Value) : argsOk "bytearray.__init__" ⟨[a], []⟩ := by unfold argsOk; kernel_rfl
theorem args_append (a b : Value) : argsOk "bytearray.append" ⟨[a, b], []⟩ := by unfold argsOk; kernel_rfl
theorem args_extend (a b : Value) : argsOk "bytearray.extend" ⟨[a, b], []⟩ := by unfold argsOk; kernel_rfl
set_option maxRecDepth 1000000 in
set_option maxHeartbeats 4000000 in
theorem owner : ("bytearray.__new__".splitOn ".__new__").headD "" = "bytearray" := by simp +decide [String.splitOn, String.splitOnAux]

section
variable {prog : Program} {w : World} {A : Around} {E : Value → Shared → Prop} {s : Shared}
theorem code_new {Q₁ : Value → Shared → Prop} (h : Q₁ (.ref s.heap.objs.size) { s with heap := s.heap.push { cls := .type "bytearray", data := .bytearray #[] } }) :
    codeAny (model prog w) A (.call (.builtin "bytearray.__new__") ⟨[.type "bytearray"], []⟩) (wants Q₁ E) s := by
  refine codeAny_of_tree ?_
  show wpAny _ A.in1 (do checkBuiltinCall "bytearray.__new__" ⟨[.type "bytearray"], []⟩; again (.builtin "bytearray.__new__" ⟨[.type "bytearray"], []⟩)) _ _ s
  refine wpAny_bind (wpAny_of_eq newCall (wpAny_pure ⟨plainId_quiet plain_new _, codeAny_builtin_stack entry_new rfl fun p st => ?_⟩))
  rw [Around.under_plainId plain_new _]
  have hsub := sub_self
  have hown := owner
  obtain ⟨hp, g, d, tk, os⟩ := s
  simp only [hown]
  wp_walk
  exact h

theorem codeOn_builtin {id : String} {args : Args} {b : Builtin} {R : Result → Shared → Prop} (hb : entryFor table id = some b)
    (h : wpOn (model prog w) (A.under (.builtin id args)) (b args)
      (fun fin s' => match fin with | .done f => R (.ok f) s' | .again c' => c'.quiet = true ∧ calmC c' = true ∧ codeOn (model prog w) A c' R s') (fun e s' => R (.error e) s') s) :
    codeOn (model prog w) A (.builtin id args) R s := by
  refine codeOn_tree ?_
  show wpOn _ _ (match entryFor table id with | some b => b args | none => unsupported ((withoutEnding? id "#data").getD id)) _ _ s
  rw [hb]; exact h
/-- a method of a built-in type -/
theorem on_slot {T : String} {name : Str} {id : String} {b : Builtin} {self : Value} {rest : List Value} {Q : Value → Shared → Prop} (hs : Slot T name id) (hT : s.TypeIs self T) (hb : entryFor table id = some b) (hc : calmC (.builtin id ⟨self :: rest, []⟩) = true) (ha : argsOk id ⟨self :: rest, []⟩)
    (h : wpOn (model prog w) A.in1 (b ⟨self :: rest, []⟩) (fun fin s' => ∃ v, fin = .done (.ret v) ∧ Q v s') E s) : wpOn (model prog w) A (call (.builtin id) (self :: rest)) Q E s := by
  refine on_call (codeOn_tree ?_)
  show wpOn _ A.in1 (do checkBuiltinCall id ⟨self :: rest, []⟩; again (.builtin id ⟨self :: rest, []⟩)) _ _ s
  refine on_then (hs.check _ _ _ _ _ _ _ _ hT ha (on_pure ⟨plainId_quiet hs.plain _, hc, codeOn_builtin hb ?_⟩))
  rw [Around.under_plainId hs.plain _]
  exact on_mono h (fun fin s' h' => by obtain ⟨v, rfl, hv⟩ := h'; exact hv) fun _ _ x => x
theorem on_if_false {α : Type} {M : Model} {c : Bool} {a b : Sem α} {Q : α → Shared → Prop} (hc : c = false) (h : wpOn M A b Q E s) : wpOn M A (if c = true then a else b) Q E s := by subst hc; exact h
theorem on_if_true {α : Type} {M : Model} {c : Bool} {a b : Sem α} {Q : α → Shared → Prop} (hc : c = true) (h : wpOn M A a Q E s) : wpOn M A (if c = true then a else b) Q E s := by subst hc; exact h

theorem calm_builtin (id : String) (args : Args) : calmC (.builtin id args) = !holders.contains id := rfl
theorem on_exported {self : Value} {Q : Bool → Shared → Prop} (h : Q false s) : wpOn (model prog w) A (Builtin.Bytes.exported self) Q E s := by
  unfold Builtin.Bytes.exported
  refine on_stackAny (fun c p hc => ?_) h
  cases c with
  | builtin id args =>
    obtain ⟨pos, kw⟩ := args
    rw [calm_builtin, Bool.not_eq_true'] at hc
    have n : ∀ x ∈ holders, id ≠ x := fun x hx q => by
      rw [q, List.contains_iff_mem.mpr hx] at hc; cases hc
    have n1 := n "bytearray.__contains__" (by decide +kernel)
    have n2 := n "bytearray.__mod__" (by decide +kernel)
    have n3 := n "bytearray.__rmod__" (by decide +kernel)
    have n4 := n "_struct.pack_into.held" (by decide +kernel)
    have n5 := n "bytearray.find.held" (by decide +kernel)
    have hd : Builtin.Bytes.decodersThatHold.contains id = false := by
      cases hq : Builtin.Bytes.decodersThatHold.contains id with
      | false => rfl
      | true => exact absurd rfl (n id (by
          rw [List.contains_iff_mem] at hq
          exact List.mem_cons_of_mem _ (List.mem_cons_of_mem _ (List.mem_cons_of_mem _ (List.mem_cons_of_mem _ (List.mem_cons_of_mem _ hq))))))
    unfold Builtin.Bytes.exported.match_1
    cases pos <;> simp only [n1, n2, n3, n4, n5, hd, dif_neg, not_false_eq_true, Bool.and_false]
  | _ => rfl
theorem on_checkResize {a : Addr} {o : Obj} {b : Array UInt8} {Q : Unit → Shared → Prop} (ho : s.heap.get? a = some o) (hd : o.data = .bytearray b) (h : Q () s) : wpOn (model prog w) A (Builtin.Bytes.checkResize (.ref a)) Q E s := by
  unfold Builtin.Bytes.checkResize
  refine on_bind (on_bind (on_exported ?_))
  refine on_then (wpAny_bind (wpAny_load ho ?_))
  rw [hd]
  refine wpAny_pure ?_
  exact on_pure (on_if_false rfl (on_pure h))
theorem on_write {a : Addr} {b : Array UInt8} {f : Array UInt8 → Array UInt8} {Q : Unit → Shared → Prop} (ho : s.heap.get? a = some { cls := .type "bytearray", data := .bytearray b }) (hz : (f b).size ≤ sizeLine)
    (h : (s.heap.update a (Obj.mapBytearray f)).get? a = some { cls := .type "bytearray", data := .bytearray (f b) } → Q () { s with heap := s.heap.update a (Obj.mapBytearray f) }) : wpAny (model prog w) A (Builtin.Bytes.write (.ref a) f) Q E s := by
  show wpAny _ _ (updateBytearray a f) _ _ _
  unfold updateBytearray
  refine wpAny_bind (wpAny_load ho ?_)
  show wpAny _ _ (update a (Obj.mapBytearray f) >>= fun _ => lookBehind a) _ _ _
  have ho2 : (s.heap.update a (Obj.mapBytearray f)).get? a = some { cls := .type "bytearray", data := .bytearray (f b) } := Heap.get?_update_self (Obj.mapBytearray f) ho rfl
  refine wpAny_bind (wpAny_update ho (wpAny_lookBehind ho2 ?_ (h ho2)))
  show (if (f b).size > sizeLine then some "bytearray:memory" else none) = none
  rw [if_neg (by lia)]

theorem on_append {a : Addr} {b : Array UInt8} {c : Int} {t : Tok} {Q : Value → Shared → Prop} (ho : s.heap.get? a = some { cls := .type "bytearray", data := .bytearray b }) (h0 : 0 ≤ c) (h1 : c < 256) (hz : b.size < sizeLine)
    (h : ∀ h', Heap.SameBut a s.heap h' → h'.get? a = some { cls := .type "bytearray", data := .bytearray (b.push c.toNat.toUInt8) } → Q .none { s with heap := h' }) :
    wpOn (model prog w) A (call (.builtin "bytearray.append") [.ref a, .int c t]) Q noE s := by
  refine on_slot slot_append ⟨_, ho, rfl⟩ entry_append (show (!holders.contains "bytearray.append") = true by decide +kernel) (args_append _ _) ?_
  unfold Builtin.«bytearray.append»
  refine on_then (wpAny_of_eq (a := (.ref a, .int c t)) rfl ?_)
  refine on_then ?_
  unfold Builtin.Bytes.byteValue
  refine wpAny_bind (wpAny_of_eq (rfl : asIndex (.int c t) = pure c) ?_)
  refine bm_if_false (by simp only [Bool.or_eq_false_iff, decide_eq_false_iff_not]; lia) ?_
  refine wpAny_pure (on_bind (on_checkResize ho rfl (on_then (on_write (f := fun x => x.push c.toNat.toUInt8) ho (by simp; lia) fun ho2 => ?_))))
  exact on_pure ⟨_, rfl, h _ (Heap.SameBut.update ..) ho2⟩

end
end BA

namespace BA
theorem rel_ba : typeLookup (.type "bytearray") "__release_buffer__" = pure (some (.builtin "bytearray.__release_buffer__")) := by rw [typeLookup_type, builtinLookup_eq_fast]; kernel_rfl
theorem buf_ba : typeLookup (.type "bytearray") "__buffer__" = pure (some (.builtin "bytearray.__buffer__")) := by rw [typeLookup_type, builtinLookup_eq_fast]; kernel_rfl
theorem rel_bytes : typeLookup (.type "bytes") "__release_buffer__" = pure none := by rw [typeLookup_type, builtinLookup_eq_fast]; kernel_rfl
theorem buf_bytes : typeLookup (.type "bytes") "__buffer__" = pure (some (.builtin "bytes.__buffer__")) := by rw [typeLookup_type, builtinLookup_eq_fast]; kernel_rfl
theorem bytes_ba : typeLookup (.type "bytearray") "__bytes__" = pure none := by rw [typeLookup_type, builtinLookup_eq_fast]; kernel_rfl
theorem index_ba : typeLookup (.type "bytearray") "__index__" = pure none := by rw [typeLookup_type, builtinLookup_eq_fast]; kernel_rfl
theorem sub_bytes : isSubtype (.type "bytes") (.type "bytes") = pure true := by rw [isSubtype_type]; kernel_rfl
section
variable {prog : Program} {w : World} {A : Around} {E : Value → Shared → Prop} {s : Shared}
theorem own_slot {v : Value} {T id : String} {nm : String} {Q : Bool → Shared → Prop} (hT : s.TypeIs v T) (hl : typeLookup (.type T) (nm : Str) = pure (some (.builtin id))) (h1 : (!id.endsWith ("." ++ nm)) = false) (h2 : id.dropRight (nm.length + 1) = T) (h3 : isSubtype (.type T) (.type T) = pure true)
    (h : Q true s) : wpAny (model prog w) A (Builtin.Bytes.slotIsOwn v nm) Q E s := by
  unfold Builtin.Bytes.slotIsOwn
  refine wpAny_bind (wpAny_specialOf hT hl ?_)
  dsimp only
  rw [if_neg (by rw [h1]; exact Bool.false_ne_true), h2]
  exact wpAny_isInstance hT h3 h
theorem own_rel {a : Addr} {o : Obj} {Q : Bool → Shared → Prop} (ho : s.heap.get? a = some o) (hc : o.cls = .type "bytearray") (h : Q false s) : wpAny (model prog w) A (Builtin.Bytes.ownRelease (.ref a)) Q E s := by
  unfold Builtin.Bytes.ownRelease
  exact wpAny_bind (own_slot (T := "bytearray") (id := "bytearray.__release_buffer__") ⟨_, ho, hc⟩ rel_ba (by decide +kernel) (by decide +kernel) sub_self (wpAny_pure h))
theorem pay {a : Addr} {b : Array UInt8} {Q : Array UInt8 → Shared → Prop} (ho : s.heap.get? a = some { cls := .type "bytearray", data := .bytearray b }) (h : Q b s) : wpAny (model prog w) A (Builtin.Bytes.payload (.ref a)) Q E s := by
  unfold Builtin.Bytes.payload Builtin.Bytes.payload?
  exact wpAny_bind (wpAny_bind (wpAny_load ho (wpAny_pure (wpAny_pure h))))
theorem buffer_ba {id : String} {full : Bool} {a : Addr} {b : Array UInt8} {Q : Option (Array UInt8) → Shared → Prop} (ho : s.heap.get? a = some { cls := .type "bytearray", data := .bytearray b }) (h : Q (some b) s) : wpAny (model prog w) A (Builtin.Bytes.buffer? id (.ref a) full) Q E s := by
  have hT : s.TypeIs (.ref a) "bytearray" := ⟨_, ho, rfl⟩
  unfold Builtin.Bytes.buffer?
  refine wpAny_bind (wpAny_specialOf hT buf_ba ?_)
  refine wpAny_bind (own_slot hT buf_ba (by decide +kernel) (by decide +kernel) sub_self ?_)
  refine bm_if_false rfl ?_
  refine wpAny_bind (wpAny_specialOf hT buf_ba ?_)
  refine wpAny_bind (own_rel ho rfl ?_)
  refine bm_if_false rfl ?_
  exact wpAny_bind (pay ho (wpAny_pure h))
theorem buffer_bytes {id : String} {full : Bool} {b : Array UInt8} {t : Tok} {Q : Option (Array UInt8) → Shared → Prop} (h : Q (some b) s) : wpAny (model prog w) A (Builtin.Bytes.buffer? id (.bytes b t) full) Q E s := by
  have hT : s.TypeIs (.bytes b t) "bytes" := typeIs_bytes s b t
  unfold Builtin.Bytes.buffer?
  refine wpAny_bind (wpAny_specialOf hT buf_bytes ?_)
  refine wpAny_bind (own_slot hT buf_bytes (by decide +kernel) (by decide +kernel) sub_bytes ?_)
  refine bm_if_false rfl ?_
  refine wpAny_bind (wpAny_specialOf hT buf_bytes ?_)
  unfold Builtin.Bytes.ownRelease Builtin.Bytes.slotIsOwn
  refine wpAny_bind (wpAny_bind (wpAny_bind (wpAny_specialOf hT rel_bytes ?_)))
  refine wpAny_pure (wpAny_pure ?_)
  refine bm_if_false rfl ?_
  unfold Builtin.Bytes.payload Builtin.Bytes.payload?
  exact wpAny_bind (wpAny_bind (wpAny_pure (wpAny_pure (wpAny_pure h))))
theorem take_bytes {id : String} {b : Array UInt8} {t : Tok} {Q : Option (Array UInt8 × Option Value) → Shared → Prop} (h : Q (some (b, none)) s) : wpAny (model prog w) A (Builtin.Bytes.takeBufferQuiet? id (.bytes b t) 0) Q E s := by
  have hT : s.TypeIs (.bytes b t) "bytes" := typeIs_bytes s b t
  unfold Builtin.Bytes.takeBufferQuiet?
  refine wpAny_bind (wpAny_attempt ?_)
  unfold Builtin.Bytes.takeBuffer?
  refine wpAny_bind (wpAny_specialOf hT buf_bytes ?_)
  refine wpAny_bind (own_slot hT buf_bytes (by decide +kernel) (by decide +kernel) sub_bytes ?_)
  refine bm_if_false rfl ?_
  refine wpAny_bind (wpAny_specialOf hT buf_bytes ?_)
  exact wpAny_bind (buffer_bytes (wpAny_pure (wpAny_pure h)))

theorem on_extend {a : Addr} {b c : Array UInt8} {t : Tok} {Q : Value → Shared → Prop} (ho : s.heap.get? a = some { cls := .type "bytearray", data := .bytearray b }) (hz : b.size + c.size ≤ sizeLine)
    (h : ∀ h', Heap.SameBut a s.heap h' → h'.get? a = some { cls := .type "bytearray", data := .bytearray (b ++ c) } → Q .none { s with heap := h' }) :
    wpOn (model prog w) A (call (.builtin "bytearray.extend") [.ref a, .bytes c t]) Q noE s := by
  refine on_slot slot_extend ⟨_, ho, rfl⟩ entry_extend (show (!holders.contains "bytearray.extend") = true by decide +kernel) (args_extend _ _) ?_
  unfold Builtin.«bytearray.extend»
  refine on_then (wpAny_of_eq (a := (.ref a, .bytes c t)) rfl ?_)
  refine on_then (wpAny_specialOf (typeIs_bytes s c t) buf_bytes ?_)
  refine on_if_true rfl ?_
  refine on_then (wpAny_rule ?_)
  refine on_then (pay ho ?_)
  refine on_then (take_bytes ?_)
  refine on_if_true rfl ?_
  show wpOn _ _ (if (!c.isEmpty) = true then (Builtin.Bytes.checkResize (.ref a) >>= fun _ => (Builtin.Bytes.write (.ref a) (· ++ c) >>= fun _ => ret .none)) else (Builtin.Bytes.write (.ref a) (· ++ c) >>= fun _ => ret .none)) _ _ _
  have fin : wpOn (model prog w) A.in1 (Builtin.Bytes.write (.ref a) (· ++ c) >>= fun _ => ret .none) (fun fin s' => ∃ v, fin = .done (.ret v) ∧ Q v s') noE s :=
    on_then (on_write (f := fun x => x ++ c) ho (by simp; omega) fun ho2 => on_pure ⟨_, rfl, h _ (Heap.SameBut.update ..) ho2⟩)
  cases hc : c.isEmpty with
  | true => exact on_if_false rfl fin
  | false => exact on_if_true rfl (on_bind (on_checkResize ho rfl fin))

theorem bind_init : Builtin.Bytes.bindOptional "bytearray.__init__" "bytearray" ["source", "encoding", "errors"] [] [] = pure [none, none, none] := by kernel_rfl
theorem on_bytearray {Q : Value → Shared → Prop} (h : ∀ h', (∀ b o, s.heap.get? b = some o → h'.get? b = some o) → h'.get? s.heap.objs.size = some { cls := .type "bytearray", data := .bytearray #[] } → Q (.ref s.heap.objs.size) { s with heap := h' }) :
    wpOn (model prog w) A (call (.type "bytearray") []) Q noE s := by
  refine on_call (codeOn_tree ?_)
  show wpOn _ _ (callAny (.type "bytearray") _) _ _ _
  refine on_pure ⟨Code.quiet_builtin _ (by decide +kernel), by decide +kernel, codeOn_builtin F.entry_type_call ?_⟩
  rw [Around.under_plain (weight_type_call_type "bytearray" [] []) rfl]
  unfold Builtin.«type.__call__»
  refine on_if_false rfl ?_
  refine on_if_false (by decide +kernel) ?_
  refine on_then (wpAny_of_eq typeCall ?_)
  refine on_then (wpAny_of_eq mro ?_)
  refine on_if_false rfl ?_
  refine on_then (wpAny_of_eq made ?_)
  refine on_bind (on_pure ?_)
  refine on_then (wpAny_holding (wpAny_call (code_new ?_)))
  have ho : (s.heap.push { cls := .type "bytearray", data := .bytearray #[] }).get? s.heap.objs.size = some { cls := .type "bytearray", data := .bytearray #[] } := Heap.get?_push_size _ rfl
  have hT : ({ s with heap := s.heap.push { cls := .type "bytearray", data := .bytearray #[] } } : Shared).TypeIs (.ref s.heap.objs.size) "bytearray" := ⟨_, ho, rfl⟩
  refine on_then (wpAny_isInstance hT sub_self ?_)
  refine on_if_false rfl ?_
  refine on_bind (on_holding ?_)
  unfold callSpecial?
  refine on_then (wpAny_specialOf hT slot_init.lookup ?_)
  refine on_holding ?_
  refine on_then (wpAny_of_eq (slot_init.bind _) ?_)
  refine on_bind (on_slot slot_init hT entry_init (show (!holders.contains "bytearray.__init__") = true by decide +kernel) (args_init _) ?_)
  unfold Builtin.«bytearray.__init__»
  refine on_then (own_rel ho rfl ?_)
  refine on_if_false rfl ?_
  refine on_then (wpAny_of_eq bind_init ?_)
  refine on_then (wpAny_of_eq (a := ()) rfl ?_)
  refine on_then (wpAny_of_eq (a := ()) rfl ?_)
  refine on_bind (on_bind (on_exported ?_))
  refine on_then (wpAny_bind (wpAny_load ho ?_))
  refine wpAny_pure (on_pure (on_if_false rfl ?_))
  refine on_then (on_write (f := fun _ => #[]) ho (by simp [sizeLine_eq]) fun ho2 => ?_)
  refine on_then (m := (_ : Sem Unit)) (wpAny_of_eq (a := ()) rfl (on_pure ⟨_, rfl, ?_⟩))
  exact on_pure (on_if_false rfl (on_pure (h _ (fun b o e => (Heap.get?_update_ne _ _ _ _ (Nat.ne_of_lt (Heap.lt_size e))).trans (Heap.get?_push_of_some _ e)) ho2)))

theorem code_bytes {a : Addr} {b : Array UInt8} {Q : Value → Shared → Prop} (ho : s.heap.get? a = some { cls := .type "bytearray", data := .bytearray b }) (hz : b.size ≤ sizeLine) (hQ : ∀ t k, Q (.bytes b t) { s with toks := k }) :
    codeAny (model prog w) A (.call (.builtin "bytes.__new__") ⟨[.type "bytes", .ref a], []⟩) (wants Q E) s := by
  refine codeAny_of_tree ?_
  show wpAny _ A.in1 (do checkBuiltinCall "bytes.__new__" ⟨[.type "bytes", .ref a], []⟩; again (.builtin "bytes.__new__" ⟨[.type "bytes", .ref a], []⟩)) _ _ s
  refine wpAny_bind (wpAny_of_eq (F.bm_newCall _) (wpAny_pure ⟨plainId_quiet F.bm_plain _, codeAny_builtin F.bm_entry ?_⟩))
  rw [Around.under_plainId F.bm_plain _]
  have hT : s.TypeIs (.ref a) "bytearray" := ⟨_, ho, rfl⟩
  unfold Builtin.«bytes.__new__»
  refine wpAny_bind (wpAny_of_eq (a := true) rfl ?_)
  refine bm_if_false rfl ?_
  refine wpAny_bind (wpAny_of_eq F.bm_sub ?_)
  refine bm_if_false rfl ?_
  refine wpAny_bind (wpAny_of_eq (F.bm_bind _) ?_)
  refine wpAny_bind (wpAny_of_eq (a := ()) rfl ?_)
  refine wpAny_bind (wpAny_of_eq (a := ()) rfl ?_)
  refine bm_if_false rfl ?_
  refine wpAny_bind (wpAny_specialOf hT bytes_ba ?_)
  refine wpAny_bind (wpAny_bind ?_)
  show wpAny _ _ (load a >>= _) _ _ _
  refine wpAny_bind (wpAny_load ho ?_)
  refine wpAny_pure (wpAny_pure ?_)
  refine bm_if_false rfl ?_
  refine wpAny_bind (wpAny_specialOf hT index_ba ?_)
  refine bm_if_true rfl ?_
  show wpAny _ _ (Builtin.Bytes.buffer? "bytes.__new__" (.ref a) true >>= _) _ _ _
  refine wpAny_bind (buffer_ba ho ?_)
  refine wpAny_bind (wpAny_rule (wpAny_bind (wpAny_mkBytes ?_ hz)))
  show wpAny _ _ (if (Value.type "bytes" == Value.type "bytes") = true then _ else _) _ _ _
  refine bm_if_true (by decide) ?_
  first
    | exact wpAny_pure (hQ _ _)
    | exact wpAny_bind (wpAny_pure (wpAny_pure (hQ _ _)))
theorem call_bytes {a : Addr} {b : Array UInt8} {Q : Value → Shared → Prop} (ho : s.heap.get? a = some { cls := .type "bytearray", data := .bytearray b }) (hz : b.size ≤ sizeLine) (hQ : ∀ t k, Q (.bytes b t) { s with toks := k }) :
    wpAny (model prog w) A (call (.type "bytes") [.ref a]) Q E s :=
  callType_codes (Q₁ := fun obj s₁ => s₁.TypeIs obj "bytes" ∧ Q obj s₁) F.bm_called (F.bm_typeCall _) F.entry_object_init
    (code_bytes ho hz fun t k => ⟨typeIs_bytes _ _ _, hQ t k⟩) fun obj s₁ h₁ =>
    ⟨h₁.1, F.args_object_init_2 obj _, object_init_meets F.bm_called.init.lookup F.bm_called.made (by decide) prog w A.in1 _ s₁ ⟨h₁.1, rfl, h₁.2⟩⟩
end
end BA

noncomputable abbrev baObj (b : Array UInt8) : Obj := { cls := .type "bytearray", data := .bytearray b }
theorem byteArr_push (ks : List Int) (c : Int) : (byteArr ks).push c.toNat.toUInt8 = byteArr (ks ++ [c]) := by simp [byteArr]
theorem byteArr_ints (b : Array UInt8) : byteArr (KBw.bInts b) = b := by
  unfold byteArr KBw.bInts
  rw [List.map_map]
  have e : ((fun n : Int => n.toNat.toUInt8) ∘ fun c : UInt8 => (c.toNat : Int)) = id := by
    funext c; simp
  rw [e, List.map_id]
theorem byteArr_app (ks : List Int) {c : Array UInt8} {ls : List Int} (h : KBw.bInts c = ls) : byteArr ks ++ c = byteArr (ks ++ ls) := by
  rw [← h]
  conv => lhs; rw [← byteArr_ints c]
  simp [byteArr]
namespace BA
theorem plainAttrs : PlainAttrs "bytearray" :=
  ⟨⟨"bytearray.__getattribute__", by rw [typeLookup_type, builtinLookup_eq_fast]; kernel_rfl, by decide +kernel⟩, by rw [typeLookup_type, builtinLookup_eq_fast]; kernel_rfl⟩
theorem type_append : typeOf (.builtin "bytearray.append") = pure (.type "method_descriptor") := by show builtinType _ = _; rw [builtinType_eq_fast]; kernel_rfl
theorem type_extend : typeOf (.builtin "bytearray.extend") = pure (.type "method_descriptor") := by show builtinType _ = _; rw [builtinType_eq_fast]; kernel_rfl
section
variable {prog : Program} {w : World} {A : Around} {E : Value → Shared → Prop} {s : Shared} {h₀ : Heap} {L a : Addr} {m : Str → Option Value} {news news' : List (Addr × Obj)} {ks ls : List Int}
theorem upd_ba {h' : Heap} {h : Heap} {o o' : Obj} (F : Fr h₀ L h m) (N : News h₀ L h news) (U : Upd a o o' news news') (sb : Heap.SameBut a h h') (e : h'.get? a = some o') : Fr h₀ L h' m ∧ News h₀ L h' news' := by
  obtain ⟨pre, post, rfl, rfl, x, y⟩ := U.split
  have z := N (a, o) (List.mem_append_right _ (.head _))
  refine ⟨F.change sb z.2.1 z.2.2, fun p hp => ?_⟩
  rcases List.mem_append.mp hp with q | q
  · have P := N p (List.mem_append_left _ q)
    exact ⟨(sb.2 _ (x p q)).trans P.1, P.2⟩
  · rcases List.mem_cons.mp q with rfl | q
    · exact ⟨e, z.2⟩
    · have P := N p (List.mem_append_right _ (.tail _ q))
      exact ⟨(sb.2 _ (y p q)).trans P.1, P.2⟩
theorem mem_ba {o o' : Obj} (U : Upd a o o' news news') : (a, o) ∈ news := by
  obtain ⟨pre, post, rfl, rfl, x, y⟩ := U.split
  exact List.mem_append_right _ (.head _)
theorem appendN {c : Int} {t : Tok} {Q : Value → Shared → Prop} (F : Fr h₀ L s.heap m) (N : News h₀ L s.heap news) (U : Upd a (baObj (byteArr ks)) (baObj (byteArr (ks ++ [c]))) news news') (h0 : 0 ≤ c) (h1 : c < 256) (hz : ks.length < sizeLine)
    (h : ∀ h', Fr h₀ L h' m → News h₀ L h' news' → Q .none { s with heap := h' }) : wpOn (model prog w) A (call (.builtin "bytearray.append") [.ref a, .int c t]) Q noE s :=
  on_append (N _ (mem_ba U)).1 h0 h1 (by rw [byteArr_size]; exact hz) fun h' sb e => by
    rw [byteArr_push] at e
    have z := upd_ba F N U sb e
    exact h h' z.1 z.2
theorem extendN {c : Array UInt8} {t : Tok} {Q : Value → Shared → Prop} (F : Fr h₀ L s.heap m) (N : News h₀ L s.heap news) (hc : KBw.bInts c = ls) (U : Upd a (baObj (byteArr ks)) (baObj (byteArr (ks ++ ls))) news news') (hz : ks.length + ls.length ≤ sizeLine)
    (h : ∀ h', Fr h₀ L h' m → News h₀ L h' news' → Q .none { s with heap := h' }) : wpOn (model prog w) A (call (.builtin "bytearray.extend") [.ref a, .bytes c t]) Q noE s :=
  on_extend (N _ (mem_ba U)).1 (by rw [byteArr_size, ← KBw.ints_length c, hc]; exact hz) fun h' sb e => by
    rw [byteArr_app ks hc] at e
    have z := upd_ba F N U sb e
    exact h h' z.1 z.2
theorem newN {Q : Value → Shared → Prop} (F : Fr h₀ L s.heap m) (N : News h₀ L s.heap news) (h : ∀ a h', Fr h₀ L h' m → News h₀ L h' ((a, baObj (byteArr [])) :: news) → (∀ p ∈ news, p.1 ≠ a) → Q (.ref a) { s with heap := h' }) :
    wpOn (model prog w) A (call (.type "bytearray") []) Q noE s :=
  on_bytearray fun h' k e => by
    have hn : s.heap.get? s.heap.objs.size = none := by
      cases q : s.heap.get? s.heap.objs.size with
      | none => rfl
      | some o => exact absurd (Heap.lt_size q) (Nat.lt_irrefl _)
    have hne : s.heap.objs.size ≠ L := by
      intro q
      obtain ⟨oL, _, _, hL, _⟩ := F.ns
      rw [← q, hn] at hL; cases hL
    have F' : Fr h₀ L h' m := by
      obtain ⟨oL, es, ep, hL, hLd, hLk, hLf⟩ := F.ns
      exact ⟨⟨oL, es, ep, k _ _ hL, hLd, hLk, hLf⟩, fun b o e => k _ _ (F.keep b o e), F.above⟩
    refine h _ h' F' (fun p hp => ?_) fun p hp q => ?_
    · rcases List.mem_cons.mp hp with rfl | hp
      · refine ⟨e, hne, ?_⟩
        cases q : h₀.get? s.heap.objs.size with
        | none => rfl
        | some o' => rw [F.keep _ _ q] at hn; cases hn
      · exact ⟨k _ _ (N p hp).1, (N p hp).2⟩
    · have z := (N p hp).1
      rw [q, hn] at z; cases z
theorem bytesN {Q : Value → Shared → Prop} (N : News h₀ L s.heap news) (hm : (a, baObj (byteArr ks)) ∈ news) (hz : ks.length ≤ sizeLine) (h : ∀ t k, Q (.bytes (byteArr ks) t) { s with toks := k }) :
    wpAny (model prog w) A (call (.type "bytes") [.ref a]) Q E s := call_bytes (N _ hm).1 (by rw [byteArr_size]; exact hz) h
theorem methodN {name : Str} {id : String} {b : Array UInt8} {pl : Sem Bool} {Q : Value × List Value → Shared → Prop} (N : News h₀ L s.heap news) (hm : (a, baObj b) ∈ news) (slot : Slot "bytearray" name id) (hty : typeOf (.builtin id) = pure (.type "method_descriptor"))
    (h : Q (.builtin id, [.ref a]) s) : wpAny (model prog w) A (getMethod (.ref a) name pl) Q E s :=
  getMethod_builtin ⟨_, (N _ hm).1, rfl⟩ plainAttrs slot hty (fun a e => by cases e; exact ⟨_, (N _ hm).1, rfl⟩) h
end
end BA

section
variable {prog : Program} {w : World} {A : Around} {s : Shared} {env : Env} {h₀ : Heap} {x : Str} {body : List Stmt} {Q : Flow → Shared → Prop}
/-- names the base of the frame at hand -/
structure BaseIs (h₀ : Heap) : Prop where
theorem Fr.base {h₀ : Heap} {L : Addr} {h : Heap} {m : Str → Option Value} (_F : Fr h₀ L h m) : BaseIs h₀ := BaseIs.mk
/-- a loop over calm stacks: its iterator is one object of its own -/
structure LoopD (prog : Program) (w : World) (A : Around) (h₀ : Heap) (env : Env) (x : Str) (body : List Stmt) (Q : Flow → Shared → Prop) (s : Shared) (I : Addr) (n : Nat) (P : Nat → Value → Prop) (St : Nat → Heap → Prop) (adr : List Addr) (J : Nat → (Str → Option Value) → List (Addr × Obj) → Prop) : Prop where
  W : Walks prog w A I [I] [I] n P St
  hL : env.locals ≠ I
  hI : h₀.get? I = none
  off : ∀ a ∈ adr, a ≠ I
  hIo : ∀ i h, St i h → ∃ o, h.get? I = some o
  turn : ∀ i v m₁ news₁ h tk own, i < n → P i v → OwnOff own adr → J i m₁ news₁ → Fr h₀ env.locals h (fun y => if y = x then some v else m₁ y) → News h₀ env.locals h (news₁ ++ own) →
      wpOn (model prog w) A (execs body env) (InvPostN h₀ env.locals (J (i + 1)) own adr { s with heap := h, toks := tk } Q) noE { s with heap := h, toks := tk }
  done : ∀ m₁ news₁ h tk, J n m₁ news₁ → Fr h₀ env.locals h m₁ → News h₀ env.locals h news₁ → Q .next { s with heap := h, toks := tk }
inductive TurnOn (prog : Program) (w : World) (A : Around) (h₀ : Heap) (env : Env) (x : Str) (body : List Stmt) (Q : Flow → Shared → Prop) (s : Shared) : Value → Nat → Shared → Prop
  | mk (I : Addr) (n : Nat) (P : Nat → Value → Prop) (St : Nat → Heap → Prop) (adr : List Addr) (J : Nat → (Str → Option Value) → List (Addr × Obj) → Prop) (i : Nat) (m : Str → Option Value) (news : List (Addr × Obj)) (h : Heap) (tk : Nat)
    (D : LoopD prog w A h₀ env x body Q s I n P St adr J) (hi : i ≤ n) (ha : news.map (·.1) = adr) (hst : St i h) (F : Fr h₀ env.locals h m) (N : News h₀ env.locals h news) (hJ : J i m news) : TurnOn prog w A h₀ env x body Q s (.ref I) (n - i) { s with heap := h, toks := tk }
noncomputable def LoopOn (prog : Program) (w : World) (A : Around) (h₀ : Heap) (env : Env) (x : Str) (body : List Stmt) (Q : Flow → Shared → Prop) (it : Value) (s : Shared) : Prop := ∃ n, TurnOn prog w A h₀ env x body Q s it n s
theorem turn_next {I : Addr} {n : Nat} {P : Nat → Value → Prop} {St : Nat → Heap → Prop} {adr : List Addr} {J : Nat → (Str → Option Value) → List (Addr × Obj) → Prop} {i : Nat} {h₂ : Heap} {tk₂ : Nat} {oI : Obj} {s₃ : Shared}
    (D : LoopD prog w A h₀ env x body Q s I n P St adr J) (hlt : i < n) (hst₂ : St (i + 1) h₂) (heI : h₂.get? I = some oI) (q : InvEndN h₀ env.locals (J (i + 1)) [(I, oI)] adr { s with heap := h₂, toks := tk₂ } s₃) :
    ∃ k, k < n - i ∧ TurnOn prog w A h₀ env x body Q s (.ref I) k s₃ := by
  obtain ⟨h', tk', m', news', nx, rfl, F', N', hn', ho', ha, hS⟩ := q
  exact ⟨n - (i + 1), Nat.sub_lt_sub_left hlt (Nat.lt_succ_self i), .mk I n P St adr J (i + 1) m' nx h' tk' D hlt ha (D.W.frame _ _ _ hst₂ fun b hb o e => by
    have e2 := List.mem_singleton.mp hb
    subst e2
    cases heI.symm.trans e
    exact (N' _ (ho' _ (.head _))).1) F' (fun p hp => N' p (hn' p hp)) hS⟩
theorem turn_go {it : Value} {k : Nat} {s' : Shared} (hx : env.kindOf x = some .local) (hp : (env.scope.kind == .class || (env.scope.kind == .module && env.locals != env.globals)) = false) (T : TurnOn prog w A h₀ env x body Q s it k s') :
    wpAny (model prog w) A (pyNext it) (fun r s₂ => match r with
      | none => Q .next s₂
      | some v => wpAny (model prog w) A (storeName env x v) (fun _ s₃ => wpOn (model prog w) A (execs body env) (fun f s₄ => match f with | .ret v => Q (.ret v) s₄ | .brk => Q .next s₄ | _ => ∃ m, m < k ∧ TurnOn prog w A h₀ env x body Q s it m s₄) noE s₃) noE s₂) noE s' := by
  cases T with
  | mk I n P St adr J i m news hh tk D hi ha hst F N hJ =>
    have hoff : ∀ p ∈ news, p.1 ≠ I := fun p hp => D.off _ (ha ▸ List.mem_map_of_mem hp)
    rcases Nat.lt_or_ge i n with hlt | hge
    · refine D.W.item i _ _ _ hlt hst fun v h₁ tk₁ hP hst₁ k₁ => wpAny_storeName_local hx (LCg.fr_but F k₁ D.hL D.hI).ns (fun h₂ hn₂ hs₂ => ?_) hp
      have hst₂ : St (i + 1) h₂ := D.W.frame _ _ _ hst₁ fun b hb o e => (hs₂.2 b fun q => D.hL (by rw [← q]; exact List.mem_singleton.mp hb)).trans e
      obtain ⟨oI, heI⟩ := D.hIo _ _ hst₂
      refine on_mono (D.turn i v m news h₂ _ [(I, oI)] hlt hP (fun p hp b hb e => D.off _ hb (e.symm.trans (congrArg Prod.fst (List.mem_singleton.mp hp)))) hJ ((LCg.fr_but F k₁ D.hL D.hI).set hn₂ hs₂) fun p hp => ?_) (fun f s₃ q => ?_) fun _ _ x => x
      · rcases List.mem_append.mp hp with hp | hp
        · exact (LCg.news_but N k₁ hoff).set hs₂ p hp
        · rw [List.mem_singleton.mp hp]; exact ⟨heI, Ne.symm D.hL, D.hI⟩
      · cases f with
        | ret v => exact q
        | brk => exact q
        | next => exact turn_next D hlt hst₂ heI q
        | cont => exact turn_next D hlt hst₂ heI q
    · cases Nat.le_antisymm hi hge
      exact D.W.done _ _ _ hst fun h₁ tk₁ k₁ => D.done _ _ _ _ hJ (LCg.fr_but F k₁ D.hL D.hI) (LCg.news_but N k₁ hoff)
theorem on_ForOn {px : Pos} {iter : Expr} {pos : Pos} (_hB : BaseIs h₀) (hx : env.kindOf x = some .local) (hp : (env.scope.kind == .class || (env.scope.kind == .module && env.locals != env.globals)) = false)
    (h : wpAny (model prog w) A (eval iter env) (fun v s₁ => wpAny (model prog w) A (pyIter v) (fun it s₂ => LoopOn prog w A h₀ env x body Q it s₂) noE s₁) noE s)
    (hs : ∀ x, foldedSetIterable iter env x = pure x := by intro _; rfl) (ht : ∀ it v, letOwnedTupleGo (.Name x px) it v = pure () := by intro _ _; rfl) :
    wpOn (model prog w) A (exec (.For (.Name x px) iter body [] pos) env) Q noE s :=
  on_For (I := fun it k s' => ∃ s₀, TurnOn prog w A h₀ env x body Q s₀ it k s') (fun it k s' T => by
    obtain ⟨s₀, T⟩ := T
    exact wpAny_mono (turn_go hx hp T) (fun r s₂ q => by
      cases r with
      | none => exact q
      | some v => exact wpAny_mono q (fun _ _ q => on_mono q (fun f _ q => by
          cases f with
          | ret v => exact q
          | brk => exact q
          | next => obtain ⟨m, h1, h2⟩ := q; exact ⟨m, h1, s₀, h2⟩
          | cont => obtain ⟨m, h1, h2⟩ := q; exact ⟨m, h1, s₀, h2⟩) fun _ _ x => x) fun _ _ x => x) fun _ _ x => x)
    (wpAny_mono h (fun _ _ h₁ => wpAny_mono h₁ (fun _ s₂ h₂ => by obtain ⟨n, T⟩ := h₂; exact ⟨n, s₂, T⟩) fun _ _ x => x) fun _ _ x => x) hs ht

theorem on_kst_range {σ : Type} {r : Addr} {a₀ b₀ : Int} {t₀ u₀ v₀ : Tok} {n : Nat} {m₀ : Str → Option Value} (Led : σ → List (Addr × Obj)) (ps : σ → List (Str × Value)) (Facts : σ → Prop) (stored : List Str) (P : List Int → σ → Prop) (c₀ : σ)
    (hh : A.handled = none) (hr : IsRange s.heap r a₀ b₀ 1 t₀ u₀ v₀) (hsmall : Builtin.Range.small a₀ b₀ 1 = true) (hn : Builtin.Range.rangeSize a₀ b₀ 1 = (n : Int)) (F : Fr h₀ env.locals s.heap m₀) (N : News h₀ env.locals s.heap (Led c₀)) (hf : Facts c₀) (hk : ∀ p ∈ ps c₀, m₀ p.1 = some p.2) (hp : P [] c₀)
    (turn : ∀ (c : σ) (pre : List Int) (k : Int) t (u : Str → Option Value) h tk own, k = a₀ + (pre.length : Int) → pre.length < n → OwnOff own ((Led c₀).map (·.1)) → Facts c → P pre c →
      Fr h₀ env.locals h (fun y => if y = x then some (.int k t) else kstB (fun z => if stored.contains z then u z else m₀ z) (ps c) y) → News h₀ env.locals h (Led c ++ own) →
      wpOn (model prog w) A (execs body env) (InvPostN h₀ env.locals (KstS Led ps Facts x stored m₀ P (pre ++ [k])) own ((Led c₀).map (·.1)) { s with heap := h, toks := tk } Q) noE { s with heap := h, toks := tk })
    (done : ∀ (c : σ) (u : Str → Option Value) h tk pre, pre.length = n → Facts c → P pre c → Fr h₀ env.locals h (fun y => if y = x then u y else kstB (fun z => if stored.contains z then u z else m₀ z) (ps c) y) → News h₀ env.locals h (Led c) → Q .next { s with heap := h, toks := tk }) :
    wpAny (model prog w) A (pyIter (.ref r)) (fun it s₂ => LoopOn prog w A h₀ env x body Q it s₂) noE s := by
  refine wpAny_pyIter_range hr hsmall ?_
  have W : Walks prog w A s.heap.objs.size [s.heap.objs.size] [s.heap.objs.size] n (fun i v => i < n ∧ ∃ t, v = .int (a₀ + i * 1) t)
      (fun i h => IsRangeIter h s.heap.objs.size (a₀ + (i : Nat) * 1) ((n : Int) - (i : Nat)) 1) := (Walks.range hh _ a₀ 1 n).bound
  refine ⟨n, .mk _ n _ _ ((Led c₀).map (·.1)) (fun i m nx => KstS Led ps Facts x stored m₀ P ((rangeKs a₀ n).take i) m nx) 0 m₀ (Led c₀) _ _ ⟨W, Nat.ne_of_lt F.ns.lt, next_is_new F, (fun a ha => ?_), (fun i h st => ⟨_, st⟩), ?_, ?_⟩ (Nat.zero_le _) rfl (by show IsRangeIter _ _ _ _ _; rw [hn]; simpa using Heap.get?_push_size _ rfl) (F.push _) (fun p hp => ⟨Heap.get?_push_of_some _ (N p hp).1, (N p hp).2⟩) ⟨c₀, rfl, hf, hk, fun _ _ _ _ => rfl, by simpa using hp⟩⟩
  · obtain ⟨p, hp, rfl⟩ := List.mem_map.mp ha
    exact Nat.ne_of_lt (Heap.lt_size (N p hp).1)
  · rintro i v m₁ nx h tk own hi ⟨_, t, rfl⟩ hoff ⟨c, rfl, hf', h1, h2, hp'⟩ F₁ N₁
    have e1 : a₀ + (i : Int) * 1 = a₀ + (i : Int) := by lia
    rw [e1] at F₁
    have hk' : (rangeKs a₀ n)[i]? = some (a₀ + (i : Int)) := by simp [rangeKs, hi]
    have hs : (rangeKs a₀ n).take (i + 1) = (rangeKs a₀ n).take i ++ [a₀ + (i : Int)] := by simp [List.take_add_one, hk']
    have hlen : ((rangeKs a₀ n).take i).length = i := by rw [List.length_take, rangeKs_length]; lia
    show wpOn _ _ _ (InvPostN _ _ (fun m nx => KstS Led ps Facts x stored m₀ P ((rangeKs a₀ n).take (i + 1)) m nx) _ _ _ _) _ _
    rw [hs]
    exact turn c _ _ t m₁ h tk own (by rw [hlen]) (by rw [hlen]; exact hi) hoff hf' hp' (kst_fr h1 h2 F₁) N₁
  · rintro m₁ nx h tk ⟨c, rfl, hf', h1, h2, hp'⟩ F₁ N₁
    have hl : (rangeKs a₀ n).take n = rangeKs a₀ n := List.take_of_length_le (Nat.le_of_eq (rangeKs_length _ _))
    rw [hl] at hp'
    exact done c m₁ h tk _ (rangeKs_length _ _) hf' hp' (kst_frOut h1 h2 F₁) N₁
end

namespace BJ
section
variable {prog : Program} {w : World} {A : Around} {E : Value → Shared → Prop} {s : Shared}
inductive BytesAre : List Value → List (List Int) → Prop
  | nil : BytesAre [] []
  | cons (b : Array UInt8) (t : Tok) {ys : List Value} {cs : List (List Int)} : BytesAre ys cs → BytesAre (.bytes b t :: ys) (KBw.bInts b :: cs)
theorem forIn_inv {β : Type} {M : Model} {f : Nat → β → Sem (ForInStep β)} {Q : β → Shared → Prop} (I : Nat → β → Prop) (n : Nat) : ∀ (a : Nat) (st : β), I a st →
    (∀ i st, a ≤ i → i < a + n → I i st → wpAny M A (f i st) (fun r s' => ∃ st', r = ForInStep.yield st' ∧ I (i + 1) st' ∧ s' = s) E s) → (∀ st, I (a + n) st → Q st s) →
    wpAny M A (forIn (List.range' a n) st f) Q E s := by
  induction n with
  | zero =>
    intro a st h0 _ hq
    rw [List.range'_zero, List.forIn_nil]
    exact wpAny_pure (hq st h0)
  | succ n ih =>
    intro a st h0 hs hq
    rw [List.range'_succ, List.forIn_cons]
    refine wpAny_bind (wpAny_mono (hs a st (Nat.le_refl _) (by lia) h0) (fun r s' h => ?_) fun _ _ e => e)
    obtain ⟨st', rfl, h1, rfl⟩ := h
    exact ih (a + 1) st' h1 (fun i st hi1 hi2 hI => hs i st (by lia) (by lia) hI) fun st hI => hq st (by rw [show a + (n + 1) = a + 1 + n by lia]; exact hI)
noncomputable def pl : Value → Array UInt8
  | .bytes b _ => b
  | _ => #[]
theorem foldl_size (l : List (Array UInt8)) : ∀ a : Nat, l.foldl (fun x y => x + y.size) a = a + (l.map (·.size)).sum := by
  induction l with
  | nil => intro a; simp
  | cons b l ih => intro a; rw [List.foldl_cons, ih]; simp [Nat.add_assoc]
theorem joined_aux : ∀ (l : List (Array UInt8)) (i : Nat) (a : Array UInt8), (l.zipIdx i).foldl (fun out (x : Array UInt8 × Nat) => (if x.2 > 0 then out ++ #[] else out) ++ x.1) a = l.foldl (· ++ ·) a
  | [], _, _ => rfl
  | b :: l, i, a => by
    rw [List.zipIdx_cons, List.foldl_cons, List.foldl_cons, joined_aux l]
    simp
theorem joined_foldl (l : List (Array UInt8)) : Builtin.Bytes.joined #[] l = l.foldl (· ++ ·) #[] := joined_aux l 0 #[]
theorem foldl_app_size (l : List (Array UInt8)) : ∀ a : Array UInt8, (l.foldl (· ++ ·) a).size = a.size + (l.map (·.size)).sum := by
  induction l with
  | nil => intro a; simp
  | cons b l ih => intro a; rw [List.foldl_cons, ih]; simp [Nat.add_assoc]
theorem joined_size (l : List (Array UInt8)) : (Builtin.Bytes.joined #[] l).size = (l.map (·.size)).sum := by
  rw [joined_foldl, foldl_app_size]; simp
theorem ints_app (a b : Array UInt8) : KBw.bInts (a ++ b) = KBw.bInts a ++ KBw.bInts b := by simp [KBw.bInts]
theorem foldl_app_ints (l : List (Array UInt8)) : ∀ a : Array UInt8, KBw.bInts (l.foldl (· ++ ·) a) = KBw.bInts a ++ (l.map KBw.bInts).flatten := by
  induction l with
  | nil => intro a; simp
  | cons b l ih => intro a; rw [List.foldl_cons, ih, ints_app]; simp
theorem joined_ints (l : List (Array UInt8)) : KBw.bInts (Builtin.Bytes.joined #[] l) = (l.map KBw.bInts).flatten := by
  rw [joined_foldl, foldl_app_ints]; simp [KBw.bInts]
theorem joinLetGo_none {M : Model} {Q : Unit → Shared → Prop} : ∀ {taken : List (Value × Option Value)} {keep : List Value}, Q () s → (∀ q ∈ taken, q.2 = none) → wpAny M A (Builtin.Bytes.joinLetGo taken keep) Q E s
  | [], _, h, _ => wpAny_pure h
  | (x, w) :: rest, keep, h, hn => by
    have : w = none := hn _ (.head _)
    subst this
    unfold Builtin.Bytes.joinLetGo
    refine wpAny_bind (wpAny_letGo ?_)
    exact joinLetGo_none h fun q hq => hn q (.tail _ hq)
theorem join_body {l : Addr} {o : Obj} {ys : List Value} {k : Nat} {t : Tok} {Q : Fin → Shared → Prop} (hx : s.heap.get? l = some o) (hc : o.cls = .type "list") (hd : o.data = .seq ys.toArray k) (hn : ys.length ≠ 1) (hys : ∀ y ∈ ys, ∃ b t, y = Value.bytes b t) (hz : ((ys.map pl).map (·.size)).sum ≤ sizeLine)
    (h : ∀ b' t' k, KBw.bInts b' = (ys.map fun y => KBw.bInts (pl y)).flatten → Q (.done (.ret (.bytes b' t'))) { s with toks := k }) :
    wpAny (model prog w) A (Builtin.«bytes.join» ⟨[.bytes #[] t, .ref l], []⟩) Q E s := by
  obtain ⟨c, dct, dat, sl⟩ := o
  simp only at hc hd
  subst hc hd
  have hT : s.TypeIs (.ref l) "list" := ⟨_, hx, rfl⟩
  have hlen : ys.toArray.size ≠ 1 := by simpa using hn
  unfold Builtin.«bytes.join» Builtin.Bytes.joinM
  refine wpAny_bind (wpAny_of_eq (a := (.bytes #[] t, .ref l)) rfl ?_)
  dsimp only
  refine wpAny_bind (m := Builtin.Bytes.joinItems (.ref l)) ?_
  unfold Builtin.Bytes.joinItems
  refine wpAny_bind (wpAny_typeOf hT ?_)
  rw [if_pos (by decide)]
  refine wpAny_pure ?_
  refine wpAny_bind (m := seqItems? (.ref l)) ?_
  refine wpAny_bind (wpAny_load hx (wpAny_pure ?_))
  dsimp only
  rw [if_pos (by decide)]
  delta Builtin.Bytes.joinM.match_1
  dsimp only
  rw [dif_neg hlen]
  refine wpAny_bind ?_
  rw [Std.Legacy.Range.forIn_eq_forIn_range']
  refine forIn_inv (fun i st => st = (((ys.take i).map pl).toArray, (ys.take i).map fun y => (y, none))) _ _ _ ?_ ?_ ?_
  · simp
  · intro i st _ hi hI
    subst hI
    have hi' : i < ys.length := by simpa [Std.Legacy.Range.size] using hi
    obtain ⟨b, tb, hb⟩ := hys _ (List.getElem_mem hi')
    have e : ys.toArray.getD i Value.none = Value.bytes b tb := by rw [← hb]; simp [hi']
    refine wpAny_bind (m := seqItems? _) (wpAny_bind (wpAny_load hx (wpAny_pure ?_)))
    dsimp only
    rw [if_neg ?_]
    · rw [e]
      refine wpAny_bind (wpAny_holding (BA.take_bytes ?_))
      dsimp only
      refine wpAny_bind (m := seqItems? _) (wpAny_bind (wpAny_load hx (wpAny_pure ?_)))
      dsimp only
      rw [if_neg (by simp)]
      refine wpAny_pure ⟨_, rfl, ?_, rfl⟩
      rw [List.take_add_one, List.getElem?_eq_getElem hi', hb]
      simp [pl]
    · simp only [Bool.or_eq_true, not_or, Bool.not_eq_true, List.any_eq_false]
      refine ⟨by decide, ?_⟩
      rintro ⟨x, u⟩ hx'
      simp only [List.mem_map] at hx'
      obtain ⟨y, hy, hy'⟩ := hx'
      obtain ⟨b, t, rfl⟩ := hys y (List.mem_of_mem_take hy)
      cases hy'
      simp [Value.onHeap]
  · intro st hI
    have hI' : st = ((ys.map pl).toArray, ys.map fun y => (y, none)) := by rw [hI]; simp [Std.Legacy.Range.size]
    subst hI'
    unfold Builtin.Bytes.payload Builtin.Bytes.payload?
    refine wpAny_bind (wpAny_bind (wpAny_pure (wpAny_pure ?_)))
    dsimp only
    rw [if_neg (by
      unfold Builtin.Bytes.tooLong
      simp only [List.size_toArray, Array.size_empty, Nat.zero_mul, List.foldl_toArray', foldl_size, Nat.zero_add]
      simpa using hz)]
    refine wpAny_bind (wpAny_mkBytes ?_ (by rw [joined_size]; exact hz))
    refine wpAny_bind (wpAny_holding (wpAny_point ?_))
    refine wpAny_bind (joinLetGo_none ?_ fun q hq => ?_)
    · exact wpAny_pure (h _ _ _ (by rw [joined_ints, List.map_map]; rfl))
    · obtain ⟨y, _, rfl⟩ := List.mem_map.mp hq
      rfl
end
end BJ
namespace BJ
section
theorem slot_join : Slot "bytes" "join" "bytes.join" :=
  .of (owner := "bytes") (n := "join") (by rw [typeLookup_type, builtinLookup_eq_fast]; kernel_rfl) (by decide +kernel) (by decide +kernel) (by decide +kernel)
    (by first | exact .inl (by decide +kernel) | exact .inr (by decide +kernel)) (by rw [isSubtype_type]; kernel_rfl)
theorem entry_join : entryFor table "bytes.join" = some Builtin.«bytes.join» := entryFor_of_tree (by kernel_rfl)
theorem args_join (a b : Value) : argsOk "bytes.join" ⟨[a, b], []⟩ := by unfold argsOk; kernel_rfl
theorem type_join : typeOf (.builtin "bytes.join") = pure (.type "method_descriptor") := by show builtinType _ = _; rw [builtinType_eq_fast]; kernel_rfl
variable {prog : Program} {w : World} {A : Around} {E : Value → Shared → Prop} {s : Shared} {h₀ : Heap} {L : Addr} {news : List (Addr × Obj)}
theorem BytesAre.all {ys : List Value} {cs : List (List Int)} (h : BytesAre ys cs) : ∀ y ∈ ys, ∃ b t, y = Value.bytes b t := by
  induction h with
  | nil => intro y hy; cases hy
  | cons b t _ ih =>
    intro y hy
    rcases List.mem_cons.mp hy with rfl | hy
    · exact ⟨b, t, rfl⟩
    · exact ih y hy
theorem BytesAre.ints {ys : List Value} {cs : List (List Int)} (h : BytesAre ys cs) : (ys.map fun y => KBw.bInts (pl y)) = cs := by
  induction h with
  | nil => rfl
  | cons b t _ ih => rw [List.map_cons, ih]; rfl
theorem BytesAre.sizes {ys : List Value} {cs : List (List Int)} (h : BytesAre ys cs) : ((ys.map pl).map (·.size)) = cs.map (·.length) := by
  induction h with
  | nil => rfl
  | cons b t _ ih =>
    rw [List.map_cons, List.map_cons, ih, List.map_cons, KBw.ints_length]; rfl
theorem BytesAre.snoc {ys : List Value} {cs : List (List Int)} {b : Array UInt8} {c : List Int} {t : Tok} (h : BytesAre ys cs) (e : KBw.bInts b = c) : BytesAre (ys ++ [.bytes b t]) (cs ++ [c]) := by
  subst e
  induction h with
  | nil => exact .cons _ _ .nil
  | cons b t _ ih => exact .cons _ _ ih
theorem BytesAre.len {ys : List Value} {cs : List (List Int)} (h : BytesAre ys cs) : ys.length = cs.length := by
  induction h with
  | nil => rfl
  | cons b t _ ih => simp [ih]
theorem joinN {l : Addr} {ys : List Value} {k : Nat} {t : Tok} {cs : List (List Int)} {Q : Value → Shared → Prop} (N : News h₀ L s.heap news) (hm : (l, W.listOf ys.toArray k) ∈ news) (hb : BytesAre ys cs) (hz : (cs.map (·.length)).sum ≤ sizeLine)
    (h : ∀ b' t' k, KBw.bInts b' = cs.flatten → Q (.bytes b' t') { s with toks := k }) :
    wpAny (model prog w) A (call (.builtin "bytes.join") [.bytes #[] t, .ref l]) Q E s := by
  refine wpAny_call_entry slot_join (typeIs_bytes _ _ _) entry_join ?_ (args_join _ _)
  have hx := (N _ hm).1
  by_cases hn : ys.length = 1
  · obtain ⟨y, rfl⟩ := List.length_eq_one_iff.mp hn
    cases hb with
    | cons b tb h2 =>
      cases h2
      unfold Builtin.«bytes.join» Builtin.Bytes.joinM
      refine wpAny_bind (wpAny_of_eq (a := (.bytes #[] t, .ref l)) rfl ?_)
      dsimp only
      refine wpAny_bind (m := Builtin.Bytes.joinItems (.ref l)) ?_
      unfold Builtin.Bytes.joinItems
      refine wpAny_bind (wpAny_typeOf (T := "list") ⟨_, hx, rfl⟩ ?_)
      rw [if_pos (by decide)]
      refine wpAny_pure ?_
      refine wpAny_bind (m := seqItems? (.ref l)) ?_
      refine wpAny_bind (wpAny_load hx (wpAny_pure ?_))
      dsimp only
      rw [if_pos (by decide)]
      show wpAny _ _ (do
        let __do_lift ← typeOf (.bytes b tb)
        if (__do_lift == Value.type "bytes") = true then do
            rule "bytes.join.one-item"
            ret (.bytes b tb)
          else _) _ _ _
      refine wpAny_bind (wpAny_typeOf (typeIs_bytes _ _ _) ?_)
      rw [if_pos (by decide)]
      refine wpAny_bind (wpAny_rule (wpAny_pure ⟨_, rfl, h b tb s.toks (by simp)⟩))
  · refine join_body (ys := ys) hx rfl rfl hn hb.all (by rw [hb.sizes]; exact hz) fun b' t' k e => ⟨_, rfl, h b' t' k (by rw [e, hb.ints])⟩
theorem joinMethod {M : Model} {b : Array UInt8} {t : Tok} {pl : Sem Bool} {Q : Value × List Value → Shared → Prop} (h : Q (.builtin "bytes.join", [.bytes b t]) s) : wpAny M A (getMethod (.bytes b t) (Str.ofString "join") pl) Q E s := by
  with_reducible exact KBd.method_of (.bytes b t) (typeIs_bytes _ _ _) slot_join type_join KBd.noRef h
end
end BJ

section
variable {prog : Program} {w : World} {A : Around} {E : Value → Shared → Prop} {s : Shared}
theorem list_no_keys : typeLookup (.type "list") "keys" = pure none := by rw [typeLookup_type, builtinLookup_eq_fast]; kernel_rfl
theorem keys_miss_list {a : Addr} {o : Obj} {xs : Array Value} {k : Nat} {Q : Option Value → Shared → Prop}
    (hx : s.heap.get? a = some o) (hc : o.cls = .type "list") (hdat : o.data = .seq xs k) (hd : o.dict = none) (hA : A.handled = none)
    (h : ∀ h' tk, (∀ b o, s.heap.get? b = some o → h'.get? b = some o) → Q none { s with heap := h', toks := tk }) :
    wpAny (model prog w) A (getAttr? (.ref a) "keys") Q E s := by
  obtain ⟨c, dct, dat, sl⟩ := o
  simp only at hc hdat hd
  subst hc hdat hd
  obtain ⟨hp, g, d, tk, os⟩ := s
  have hT : ∀ tk', (⟨hp, g, d, tk', os⟩ : Shared).TypeIs (.ref a) "list" := fun _ => ⟨_, hx, rfl⟩
  have f1 := sub_AttributeError
  have f3 := F.slot_list_getattribute.lookup
  have f4 := F.slot_list_getattribute.bind (.ref a)
  have f5 := am_list_getattr_none
  unfold getAttr? getAttrBy? getAttrBy
  repeat (any_goals (first | assumption | exact hT _ | ((with_reducible show wpAny _ _ (call (Value.builtin "list.__getattribute__") _ _) _ _ _); refine call_meets F.slot_list_getattribute (hT _) am_entry_list_getattribute (F.args_list_getattribute_2 _ _) (meets_getattribute_miss_list a xs k sl "keys" _ list_no_keys (by decide) (by size_fits)) ⟨hx, hA, fun h' tk' e hx' => ?_⟩) | wp_step))
  obtain ⟨t', u', he⟩ := hx'.there
  show wpAny _ _ (getattributeRaised _ _ _ _ _ _ _) _ _ _
  unfold getattributeRaised
  repeat (any_goals (first | assumption | wp_step))
  exact h _ _ hx'.of.keeps
end

section
variable {prog : Program} {w : World} {K : Type} [DecidableEq K] {knd : KeyKind prog w K} {A : Around} {E : Value → Shared → Prop}
theorem entry_dict_loop : entryFor table "dict.update.loop" = some Builtin.«dict.update.loop» := entryFor_of_tree (by kernel_rfl)
noncomputable def PairsAt (knd : KeyKind prog w K) (h : Heap) (d I : Addr) (its : Array Value) (ps : List (K × Value)) : Prop :=
  its.size = ps.length ∧ ∀ (j : Nat) (k : K) (v : Value), ps[j]? = some (k, v) → ∃ T key, its[j]? = some (Value.ref T) ∧ h.IsTuple T #[key, v] ∧ knd.is k key = true ∧ T ≠ d ∧ T ≠ I
theorem pairs_loop {d I ax : Addr} {its : Array Value} {ps : List (K × Value)} (hA : A.handled = none) (hId : I ≠ d) (hax : ax ≠ d) (hne : ax ≠ I) (hps : ps.length ≤ 4096) {R : Result → Shared → Prop} :
    ∀ (j i : Nat) (kvs : List (K × Value)) (s : Shared), i + j = ps.length → kvs.length ≤ i → s.heap.DictOf knd d kvs → s.heap.IsListIter I ax i → s.heap.IsList ax its → PairsAt knd s.heap d I its ps →
    (∀ h' tk, h'.DictOf knd d (merged kvs (ps.drop i)) → (∀ b o, b ≠ I → b ≠ d → s.heap.get? b = some o → h'.get? b = some o) → R (.ok (.ret .none)) { s with heap := h', toks := tk }) →
    codeAny (model prog w) A (.builtin "dict.update.loop" ⟨[.ref d, .ref I, rawInt i, .none], []⟩) R s := by
  intro j
  induction j with
  | zero =>
    intro i kvs s hi hkl hD hI hax' hP hR
    have hin : i = ps.length := by lia
    refine codeAny_builtin entry_dict_loop ?_
    have W := Walks.list (prog := prog) (w := w) (A := A.under (.builtin "dict.update.loop" ⟨[.ref d, .ref I, rawInt i, .none], []⟩)) hA I ax hne its
    unfold Builtin.«dict.update.loop»
    refine wpAny_bind (W.done _ _ _ (by rw [hP.1, ← hin]; exact ⟨hI, hax'⟩) fun h' tk k => ?_)
    refine wpAny_bind (wpAny_pure (wpAny_pure ?_))
    refine hR h' tk ?_ fun b o h1 h2 e => k b o (by simp [h1]) e
    rw [hin, List.drop_length]
    obtain ⟨o, es, ep, ho, r⟩ := hD
    exact ⟨o, es, ep, k _ _ (by simp [Ne.symm hId]) ho, r⟩
  | succ j ih =>
    intro i kvs s hi hkl hD hI hax' hP hR
    refine codeAny_builtin entry_dict_loop ?_
    have W := Walks.list (prog := prog) (w := w) (A := A.under (.builtin "dict.update.loop" ⟨[.ref d, .ref I, rawInt i, .none], []⟩)) hA I ax hne its
    unfold Builtin.«dict.update.loop»
    refine wpAny_bind (W.item i _ _ _ (by rw [hP.1]; lia) ⟨hI, hax'⟩ fun v h₁ tk₁ hv hst k₁ => ?_)
    obtain ⟨⟨kk, vv⟩, hkv⟩ : ∃ p, ps[i]? = some p := ⟨ps[i], List.getElem?_eq_getElem (by lia)⟩
    obtain ⟨T, key, hT, htup, hkey, hTd, hTI⟩ := hP.2 i kk vv hkv
    rw [hT] at hv; cases hv
    have k₁' : ∀ b o, b ≠ I → s.heap.get? b = some o → h₁.get? b = some o := fun b o hb e => k₁ b o (by simp [hb]) e
    have hD₁ : h₁.DictOf knd d kvs := by
      obtain ⟨o, es, ep, ho, r⟩ := hD
      exact ⟨o, es, ep, k₁' _ _ (Ne.symm hId) ho, r⟩
    have htup₁ : h₁.IsTuple T #[key, vv] := by
      obtain ⟨o, ho, r⟩ := htup
      exact ⟨o, k₁' _ _ hTI ho, r⟩
    dsimp only
    refine wpAny_bind (wpAny_holding (wpAny_bind (wpAny_tryCatch ?_)))
    unfold Builtin.Dict.pairItems
    obtain ⟨oT, hoT, hcT, nT, hdT⟩ := htup₁
    refine wpAny_bind (wpAny_typeOf (T := "tuple") ⟨oT, hoT, hcT⟩ ?_)
    simp only [show ((Value.type "tuple" == Value.type "list") || (Value.type "tuple" == Value.type "tuple")) = true from by decide, if_true]
    refine wpAny_bind ?_
    unfold seqItems?
    refine wpAny_bind (wpAny_load hoT ?_)
    simp only [hdT]
    refine wpAny_pure (wpAny_pure ?_)
    show wpAny _ _ (holding [key, vv] (dictSet d key vv)) _ _ _
    refine wpAny_holding (wpAny_dictSet_pairs hkey hD₁ (fun h₂ hD₂ hs₂ => ?_) (by rw [sizeLine_eq]; lia))
    refine wpAny_pure ⟨Code.quiet_builtin _ (by decide +kernel), ?_⟩
    have e2 : ∀ b o, b ≠ d → h₁.get? b = some o → h₂.get? b = some o := fun b o hb e => hs₂.extBut b o hb e
    have hst' := hst
    refine ih (i + 1) (stored kvs kk vv) _ (by lia) (by have := stored_length_le kvs kk vv; lia) hD₂ ?_ ?_ ⟨hP.1, fun j k v hj => ?_⟩ fun h' tk hD' hk' => ?_
    · obtain ⟨o, ho, r⟩ := hst.1
      exact ⟨o, e2 _ _ hId ho, r⟩
    · obtain ⟨o, ho, r⟩ := hst.2
      exact ⟨o, e2 _ _ hax ho, r⟩
    · obtain ⟨T', key', hT', ⟨o, ho, r⟩, hkey', hTd', hTI'⟩ := hP.2 j k v hj
      exact ⟨T', key', hT', ⟨o, e2 _ _ hTd' (k₁' _ _ hTI' ho), r⟩, hkey', hTd', hTI'⟩
    · refine hR h' tk ?_ fun b o h1 h2 e => hk' b o h1 h2 (e2 b o h2 (k₁' b o h1 e))
      have e : ps.drop i = (kk, vv) :: ps.drop (i + 1) := by
        rw [List.drop_eq_getElem_cons (by lia)]
        congr 1
        have := List.getElem?_eq_getElem (l := ps) (i := i) (by lia)
        rw [this] at hkv; exact Option.some.inj hkv
      rw [e]
      exact hD'
end

section
variable {prog : Program} {w : World} {K : Type} [DecidableEq K] {knd : KeyKind prog w K} {A : Around} {E : Value → Shared → Prop} {s : Shared}
theorem call_dict_pairs {l : Addr} {o : Obj} {its : Array Value} {k : Nat} {ps : List (K × Value)} {Q : Value → Shared → Prop} (hA : A.handled = none)
    (hx : s.heap.get? l = some o) (hc : o.cls = .type "list") (hdat : o.data = .seq its k) (hd : o.dict = none) (hps : ps.length ≤ 4096) (hsz : its.size = ps.length)
    (hP : ∀ (j : Nat) (k : K) (v : Value), ps[j]? = some (k, v) → ∃ T key, its[j]? = some (Value.ref T) ∧ s.heap.IsTuple T #[key, v] ∧ knd.is k key = true)
    (h : ∀ h' tk, (∀ b o, s.heap.get? b = some o → h'.get? b = some o) → h'.DictOf knd s.heap.objs.size (merged [] ps) → Q (.ref s.heap.objs.size) { s with heap := h', toks := tk }) :
    wpAny (model prog w) A (call (.type "dict") [.ref l]) Q E s := by
  refine callType_codes (Q₁ := fun obj s₁ => obj = .ref s.heap.objs.size ∧ s₁ = { s with heap := s.heap.push { cls := .type "dict", data := .dict #[] } }) F.kt_called_dict (F.kt_typeCall_dict_1 _) F.entry_dict_init (kt_code_dict_new _ ⟨rfl, rfl⟩) ?_
  rintro obj s₁ ⟨rfl, rfl⟩
  have hnew : (s.heap.push { cls := .type "dict", data := .dict #[] }).DictOf knd s.heap.objs.size [] := Heap.DictOf.new s.heap
  have up : ∀ b o, s.heap.get? b = some o → (s.heap.push { cls := .type "dict", data := .dict #[] }).get? b = some o := fun b o e => Heap.get?_push_of_some _ e
  have hfresh : ∀ b o, s.heap.get? b = some o → b ≠ s.heap.objs.size := fun b o e => Nat.ne_of_lt (Heap.lt_size e)
  refine ⟨hnew.typeIs, F.args_dict_init_2 _ _, ?_⟩
  unfold Builtin.«dict.__init__»
  refine wpAny_bind ?_
  unfold Builtin.Dict.selfAndRest
  refine wpAny_bind (wpAny_notOrdered_dict hnew.typeIs ?_)
  show wpAny _ _ (pure (s.heap.objs.size, [Value.ref l])) _ _ _
  refine wpAny_pure ?_
  show wpAny _ _ (Builtin.Dict.updateFrom "dict.__init__" s.heap.objs.size (.ref l) [] .none) _ _ _
  unfold Builtin.Dict.updateFrom
  refine wpAny_bind (wpAny_typeOf (T := "list") ⟨o, up _ _ hx, hc⟩ ?_)
  rw [if_pos (by decide)]
  refine wpAny_bind (keys_miss_list (up _ _ hx) hc hdat hd hA fun h₁ tk₁ k₁ => ?_)
  rw [if_pos (by rfl)]
  refine wpAny_bind (wpAny_rule ?_)
  have hl₁ : h₁.IsList l its := ⟨o, k₁ _ _ (up _ _ hx), hc, k, hdat⟩
  refine wpAny_bind (wpAny_pyIter_list hl₁ ?_)
  have hD₁ : h₁.DictOf knd s.heap.objs.size [] := by
    obtain ⟨o, es, ep, ho, r⟩ := hnew
    exact ⟨o, es, ep, k₁ _ _ ho, r⟩
  have hdI : s.heap.objs.size ≠ h₁.objs.size := by
    obtain ⟨o, es, ep, ho, r⟩ := hD₁
    exact Nat.ne_of_lt (Heap.lt_size ho)
  have hlt : ∀ b o, s.heap.get? b = some o → b ≠ h₁.objs.size := fun b o e => Nat.ne_of_lt (Heap.lt_size (k₁ _ _ (up _ _ e)))
  refine wpAny_pure ⟨Code.quiet_builtin _ (by decide +kernel), ?_⟩
  refine pairs_loop (A := A.in1) (knd := knd) (ax := l) (its := its) (ps := ps) (show A.in1.handled = none from hA) (Ne.symm hdI) (hfresh _ _ hx) (hlt _ _ hx) hps ps.length 0 [] _ (by simp) (Nat.le_refl _) ?_ ?_ ?_ ⟨hsz, fun j kk v hj => ?_⟩ fun h' tk hD' hk' => ?_
  · exact hD₁.push _
  · exact ⟨_, Heap.get?_push_size _ rfl, rfl, rfl⟩
  · exact hl₁.push _
  · obtain ⟨T, key, hT, ⟨oT, hoT, r⟩, hkey⟩ := hP j kk v hj
    exact ⟨T, key, hT, ⟨oT, Heap.get?_push_of_some _ (k₁ _ _ (up _ _ hoT)), r⟩, hkey, hfresh _ _ hoT, hlt _ _ hoT⟩
  · refine ⟨rfl, h h' tk (fun b o e => hk' b o (hlt _ _ e) (hfresh _ _ e) (Heap.get?_push_of_some _ (k₁ _ _ (up _ _ e)))) ?_⟩
    · rw [List.drop_zero] at hD'; exact hD'
end

section
variable {prog : Program} {w : World} {K : Type} [DecidableEq K] {knd : KeyKind prog w K} {A : Around} {E : Value → Shared → Prop} {s : Shared} {h₀ : Heap} {L : Addr} {m : Str → Option Value} {news : List (Addr × Obj)}
theorem dict_pairsN {l : Addr} {ys : List Value} {ps : List (K × Value)} {Q : Value → Shared → Prop} (hA : A.handled = none) (F : Fr h₀ L s.heap m) (N : News h₀ L s.heap news) (hbig : h₀.NoLimit)
    (hm : (l, LCg.lst ys) ∈ news) (hps : ps.length ≤ 4096) (hsz : ys.length = ps.length)
    (hP : ∀ (j : Nat) (k : K) (v : Value), ps[j]? = some (k, v) → ∃ T key o n, ys[j]? = some (Value.ref T) ∧ (T, o) ∈ news ∧ o.cls = .type "tuple" ∧ o.data = .seq #[key, v] n ∧ knd.is k key = true)
    (h : ∀ d h' tk o, Fr h₀ L h' m → News h₀ L h' ((d, o) :: news) → o.IsDictOf knd (merged [] ps) → (d == sysModules) = false → (∀ p ∈ news, p.1 ≠ d) → Q (.ref d) { s with heap := h', toks := tk }) :
    wpAny (model prog w) A (call (.type "dict") [.ref l]) Q E s := by
  refine call_dict_pairs (knd := knd) (its := ys.toArray) (ps := ps) hA (N _ hm).1 rfl rfl rfl hps (by simpa using hsz) (fun j k v hj => ?_) fun h' tk k₁ hD => ?_
  · obtain ⟨T, key, o, n, hT, hTm, hc, hd, hk⟩ := hP j k v hj
    exact ⟨T, key, by simpa using hT, ⟨o, (N _ hTm).1, hc, n, hd⟩, hk⟩
  · obtain ⟨o, ho, hd'⟩ := Heap.dictOf_iff.mp hD
    have hn : s.heap.get? s.heap.objs.size = none := by
      cases q : s.heap.get? s.heap.objs.size with
      | none => rfl
      | some o => exact absurd (Heap.lt_size q) (Nat.lt_irrefl _)
    have F' : Fr h₀ L h' m := by
      obtain ⟨oL, es, ep, hL, hLd, hLk, hLf⟩ := F.ns
      exact ⟨⟨oL, es, ep, k₁ _ _ hL, hLd, hLk, hLf⟩, fun b o e => k₁ _ _ (F.keep b o e), F.above⟩
    refine h _ h' tk o F' (fun p hp => ?_) hd' (F.notModules (modules_low hbig)) fun p hp q => ?_
    · rcases List.mem_cons.mp hp with rfl | hp
      · refine ⟨ho, ?_, ?_⟩
        · intro q
          have q' : s.heap.objs.size = L := q
          obtain ⟨oL, _, _, hL, _⟩ := F.ns
          rw [← q', hn] at hL; cases hL
        · cases q : h₀.get? s.heap.objs.size with
          | none => rfl
          | some o' => rw [F.keep _ _ q] at hn; cases hn
      · exact ⟨k₁ _ _ (N p hp).1, (N p hp).2⟩
    · have z := (N p hp).1
      rw [q, hn] at z; cases z
end
namespace Gr
open LCg
section
variable {prog : Program} {w : World} {A : Around} {E : Value → Shared → Prop} {s : Shared} {h₀ : Heap} {L : Addr} {m : Str → Option Value} {env : Env} {elt : Expr} {x : Str} {scope : Scope} {cl : List (Str × Addr)} {news : List (Addr × Obj)}
theorem comp_grow {S : List (Addr × Obj) → Prop} {P : Nat → Value → Prop} {Fi : List Value → List (Addr × Obj) → Prop} {n : Nat} (J : Nat → List Value → List (Addr × Obj) → Prop)
    (turn : ∀ i v I oI C oC D m₂ ys news h tk (E' : Value → Shared → Prop), i < n → P i v → J i ys news → NsObj oC m₂ → m₂ x = some v → Fr h₀ L h m → News h₀ L h ((I, oI) :: (C, oC) :: (D, lst ys) :: news) → Off3 I C D news → ((@Ne Nat I C) ∧ (@Ne Nat I D) ∧ (@Ne Nat C D)) →
      wpAny (model prog w) A (eval elt (compEnvC scope cl C env)) (CompEnd h₀ L m { s with heap := h, toks := tk } I oI C oC D (lst ys) S (fun y news' => J (i + 1) (ys ++ [y]) news')) E' { s with heap := h, toks := tk })
    (hJ : J 0 [] news) (fin : ∀ ys nw, J n ys nw → Fi ys nw) : CompRest prog w A h₀ L m env elt x scope cl s S P Fi n 0 [] news := by
  have key : ∀ (j i : Nat) (ys : List Value) (nw : List (Addr × Obj)), i + j = n → J i ys nw → CompRest prog w A h₀ L m env elt x scope cl s S P Fi j i ys nw := by
    intro j
    induction j with
    | zero =>
      intro i ys nw hi hy
      obtain rfl : i = n := by lia
      exact CompRest.zero (fin _ _ hy)
    | succ j ih =>
      intro i ys nw hi hy
      refine CompRest.succ ?_
      intro v I oI C oC D m₂ h tk E' hv hC hx F N off ne
      refine wpAny_mono (turn i v I oI C oC D m₂ ys nw h tk E' (by lia) hv hy hC hx F N off ne) (fun y s₂ hq => ?_) fun _ _ e => e
      obtain ⟨h', tk', nw', e, F', N', off', hS, hg⟩ := hq
      exact ⟨h', tk', nw', e, F', N', off', hS, ih (i + 1) _ _ (by lia) hg⟩
  exact key n 0 [] news (by lia) hJ
end
end Gr

noncomputable abbrev ar (dp un : Nat) (gd : Option (List Code)) (outer : List Env) : Around := { handled := none, depth := dp, frames := some outer, guards := gd, units := un }
/-- the room that is left, kept from the arithmetic that does not need it -/
noncomputable def Room (dp n : Nat) : Prop := dp + n < recursionLimit
noncomputable def Units (un n : Nat) : Prop := un + 10 * n < cLine
theorem Room.le {dp n k : Nat} (h : Room dp n) (q : k ≤ n) : Room dp k := Nat.lt_of_le_of_lt (Nat.add_le_add_left q dp) h
theorem Units.le {un n k : Nat} (h : Units un n) (q : k ≤ n) : Units un k := Nat.lt_of_le_of_lt (Nat.add_le_add_left (Nat.mul_le_mul_left 10 q) un) h
theorem Room.deep {dp n : Nat} (h : Room dp (n + 1)) : Room (dp + 1) n := by
  have h : dp + (n + 1) < recursionLimit := h
  show dp + 1 + n < recursionLimit
  rwa [Nat.add_right_comm]
theorem Units.up {un n k : Nat} (h : Units un (n + 1)) (q : k ≤ 10) : Units (un + k) n := by
  have h : un + (10 * n + 10) < cLine := h
  show un + k + 10 * n < cLine
  exact Nat.lt_of_le_of_lt (by rw [Nat.add_assoc]; exact Nat.add_le_add_left (by rw [Nat.add_comm]; exact Nat.add_le_add_left q _) un) h
theorem Room.low {dp n : Nat} (h : Room dp n) : dp < recursionLimit := Nat.lt_of_le_of_lt (Nat.le_add_right dp n) h
structure Sit (p : Program) (lz : List Str) (w : World) (mean : ExcName → Option Value) (mg mb : Str → Option Value) (dp un : Nat) (gd : Option (List Code)) (base : Heap) (outer : List Env) (n : Nat) (h : Heap) : Prop where
  kin : (hd.heap_39 w.params).In h
  top : Top p lz mean mg mb h
  below : Below (ar dp un gd outer) base outer h
  room : Room dp n
  units : Units un n

section
variable {prog p : Program} {lz : List Str} {w : World} {mean : ExcName → Option Value} {mg mb : Str → Option Value} {dp un : Nat} {gd : Option (List Code)} {base : Heap} {outer : List Env} {n : Nat}
  {Q E : Value → Shared → Prop} {s : Shared} {h₀ : Heap} {L a : Addr} {m : Str → Option Value} {cn : Str} {cs : Scope} {ccd : Value} {news : List (Addr × Obj)}

theorem Sit.use (B : Below (ar dp un gd outer) base outer h₀) (F : Fr h₀ L s.heap m) (X : (hd.heap_39 w.params).In h₀) (T : Top p lz mean mg mb h₀)
    (room : Room dp (n + 1)) (units : Units un (n + 1)) (hk : cs.kind = .function := by rfl) :
    Sit p lz w mean mg mb (dp + 1) (un + 3) gd base (envOf cn cs L a ccd :: outer) n s.heap :=
  ⟨X.keeps F.keep, T.keeps F.keep, B.push F hk, room.deep, units.up (by decide)⟩

theorem fr_stays {h h' : Heap} (F : Fr h₀ L h m) (k : h.StaysIn h') : Fr h₀ L h' m := by
  obtain ⟨oL, es, ep, hL, hLd, hLk, hLf⟩ := F.ns
  exact ⟨⟨oL, es, ep, k _ _ hL, hLd, hLk, hLf⟩, fun b o e => k _ _ (F.keep b o e), F.above⟩
theorem news_stays {h h' : Heap} (N : News h₀ L h news) (k : h.StaysIn h') : News h₀ L h' news := fun p hp => ⟨k _ _ (N p hp).1, (N p hp).2⟩

noncomputable abbrev retTo (Q E : Value → Shared → Prop) : Result → Shared → Prop := fun r s' => match r with | .ok (.ret v) => Q v s' | .ok _ => False | .error e => E e s'

theorem enterS {name qual : Str} {params : Arguments} {body : List Stmt} {scope : Scope} {dV kV doc pm cdv ct oc : Value} {an od : Option Addr} {osl : Array (Option Value)} {f : Addr} {args : List Value} {binds : List (Str × Value)}
    (S : Sit p lz w mean mg mb dp un gd base outer (n + 1) s.heap)
    (ho : (hd.heap_39 w.params).lookup f = some ⟨oc, od, .func (fnOf name qual params body scope dV kV doc pm an cdv ct), osl⟩) (hcd : codeIn (hd.heap_39 w.params) cdv qual = true)
    (hbind : BindsTo s (fnOf name qual params body scope dV kV doc pm an cdv ct) ⟨args, []⟩ binds) (hloc : ∀ y ∈ binds, scope.names.lookup y.1 = some .local)
    (hco : scope.isCoroutine = false) (hgen : scope.isGenerator = false) (hk : scope.kind = .function)
    (hcell : ∀ x ∈ scope.names, x.2 ≠ .cell)
    (h : ∀ L' h₁, Fr s.heap L' h₁ (fun y => binds.reverse.lookup y) → News s.heap L' h₁ [] → Below (ar dp un gd outer) base outer s.heap → (hd.heap_39 w.params).In s.heap → Top p lz mean mg mb s.heap →
      Room dp (n + 1) → Units un (n + 1) →
      wpAny (model prog w) ((ar dp un gd outer).deeper (envOf qual scope L' f cdv)) (execs body (envOf qual scope L' f cdv))
        (fun fl s' => Q (match fl with | .ret v => v | _ => .none) s')
        (fun e s' => wpAny (model prog w) ((ar dp un gd outer).deeper (envOf qual scope L' f cdv)) (leaving (envOf qual scope L' f cdv) e) (fun _ s'' => E e s'') (fun e' s'' => E e' s'') s')
        { s with heap := h₁, toks := s.toks + binds.length })
     : wpAny (model prog w) (ar dp un gd outer) (call (.ref f) args) Q E s := by
  refine wpAny_call ?_
  have T := S.top
  refine codeAny_call_def (fd := fnOf name qual params body scope dV kV doc pm an cdv ct) (body := body) (binds := binds) S.room.low (S.kin _ _ ho) rfl T.nolimit (codeRec_of S.kin hcd) rfl hbind hcell hloc (fun h₁ hns hk₁ => ?_) hco hgen hk
  have F : Fr s.heap s.heap.objs.size h₁ (fun y => binds.reverse.lookup y) := ⟨hns, hk₁, Nat.le_refl _⟩
  exact h s.heap.objs.size h₁ F News.nil S.below S.kin T S.room S.units
theorem on_enterS {name qual : Str} {params : Arguments} {body : List Stmt} {scope : Scope} {dV kV doc pm cdv ct oc : Value} {an od : Option Addr} {osl : Array (Option Value)} {f : Addr} {args : List Value} {binds : List (Str × Value)}
    (S : Sit p lz w mean mg mb dp un gd base outer (n + 1) s.heap)
    (ho : (hd.heap_39 w.params).lookup f = some ⟨oc, od, .func (fnOf name qual params body scope dV kV doc pm an cdv ct), osl⟩) (hcd : codeIn (hd.heap_39 w.params) cdv qual = true)
    (hbind : BindsTo s (fnOf name qual params body scope dV kV doc pm an cdv ct) ⟨args, []⟩ binds) (hloc : ∀ y ∈ binds, scope.names.lookup y.1 = some .local)
    (hco : scope.isCoroutine = false) (hgen : scope.isGenerator = false) (hk : scope.kind = .function)
    (hcell : ∀ x ∈ scope.names, x.2 ≠ .cell)
    (h : ∀ L' h₁, Fr s.heap L' h₁ (fun y => binds.reverse.lookup y) → News s.heap L' h₁ [] → Below (ar dp un gd outer) base outer s.heap → (hd.heap_39 w.params).In s.heap → Top p lz mean mg mb s.heap →
      Room dp (n + 1) → Units un (n + 1) →
      wpOn (model prog w) ((ar dp un gd outer).deeper (envOf qual scope L' f cdv)) (execs body (envOf qual scope L' f cdv))
        (fun fl s' => Q (match fl with | .ret v => v | _ => .none) s') noE
        { s with heap := h₁, toks := s.toks + binds.length })
     : wpOn (model prog w) (ar dp un gd outer) (call (.ref f) args) Q noE s := by
  refine on_call ?_
  have T := S.top
  refine codeOn_def (fd := fnOf name qual params body scope dV kV doc pm an cdv ct) (body := body) (binds := binds) S.room.low (S.kin _ _ ho) rfl T.nolimit (codeRec_of S.kin hcd) rfl hbind hcell hloc hco hgen hk (fun h₁ hns hk₁ => ?_)
  have F : Fr s.heap s.heap.objs.size h₁ (fun y => binds.reverse.lookup y) := ⟨hns, hk₁, Nat.le_refl _⟩
  exact h s.heap.objs.size h₁ F News.nil S.below S.kin T S.room S.units
end

section
variable {prog p : Program} {lz : List Str} {w : World} {mean : ExcName → Option Value} {mg mb : Str → Option Value} {dp un : Nat} {gd : Option (List Code)} {base : Heap} {outer : List Env} {n : Nat}
  {Q E : Value → Shared → Prop} {s : Shared}
theorem enterC {name qual : Str} {params : Arguments} {body : List Stmt} {scope : Scope} {dV kV doc pm cdv ct oc : Value} {an od : Option Addr} {osl : Array (Option Value)} {f : Addr} {args : List Value} {binds : List (Str × Value)}
    (S : Sit p lz w mean mg mb dp un gd base outer (n + 1) s.heap)
    (ho : (hd.heap_39 w.params).lookup f = some ⟨oc, od, .func (fnOf name qual params body scope dV kV doc pm an cdv ct), osl⟩) (hcd : codeIn (hd.heap_39 w.params) cdv qual = true)
    (hbind : BindsTo s (fnOf name qual params body scope dV kV doc pm an cdv ct) ⟨args, []⟩ binds) (hkind : (binds.all fun y => scope.names.lookup y.1 == some .local || scope.names.lookup y.1 == some .cell) = true)
    (hnd : ((cellsFrom 0 scope.names []).map (·.1)).Nodup)
    (hco : scope.isCoroutine = false) (hgen : scope.isGenerator = false) (hk : scope.kind = .function)
    (h : ∀ L' h₁ tk cells, Fr s.heap L' h₁ (bindL (envOfC qual scope L' f cdv).kindOf binds fun _ => none) → News s.heap L' h₁ cells →
      CellsAre (bindC (envOfC qual scope L' f cdv).kindOf binds fun _ => none) (cellsFrom (L' + 1) scope.names []) cells → Below (ar dp un gd outer) base outer s.heap → (hd.heap_39 w.params).In s.heap → Top p lz mean mg mb s.heap →
      Room dp (n + 1) → Units un (n + 1) →
      wpAny (model prog w) ((ar dp un gd outer).deeper (envOfC qual scope L' f cdv)) (execs body (envOfC qual scope L' f cdv))
        (fun fl s' => Q (match fl with | .ret v => v | _ => .none) s')
        (fun e s' => wpAny (model prog w) ((ar dp un gd outer).deeper (envOfC qual scope L' f cdv)) (leaving (envOfC qual scope L' f cdv) e) (fun _ s'' => E e s'') (fun e' s'' => E e' s'') s')
        { s with heap := h₁, toks := tk })
     : wpAny (model prog w) (ar dp un gd outer) (call (.ref f) args) Q E s := by
  refine wpAny_call ?_
  have T := S.top
  refine codeAny_call_function S.room.low (S.kin _ _ ho) rfl hco hgen rfl (codeRec_of S.kin hcd) (hbind _ _ _ _ ?_)
  refine wpAny_newFunctionEnv_cells hk (kindsX hkind _) fun env' he s' x => ?_
  subst he
  refine ⟨T.nolimit.keeps x.toInCall.keep, codeAny_func ?_⟩
  obtain ⟨h₁, tk, rfl, _⟩ := x.done
  have hk₁ := x.toInCall.keep
  obtain ⟨cells, NC, Y⟩ := Cl.news (h₀ := s.heap) (Nat.le_refl _) fun n c hm => ⟨x.cell n c (lookup_of_mem_nodup (cellsFrom_names scope.names 0 (s.heap.objs.size + 1) [] [] rfl ▸ hnd) hm), x.above n c hm⟩
  exact h s.heap.objs.size h₁ tk cells ⟨x.toInCall.ns, hk₁, Nat.le_refl _⟩ NC Y S.below S.kin T S.room S.units
end



section
variable {Q : Value → Shared → Prop} {s : Shared}
theorem ret_v {v v' : Value} {h' : Heap} {tk' : Nat} (hret : ∀ h' tk', s.heap.StaysIn h' → Q v { s with heap := h', toks := tk' }) (e : v' = v) (k : s.heap.StaysIn h') : Q v' { s with heap := h', toks := tk' } := e ▸ hret _ _ k
theorem ret_t {f : Tok → Value} {v' : Value} {h' : Heap} {tk' : Nat} (hret : ∀ t h' tk', s.heap.StaysIn h' → Q (f t) { s with heap := h', toks := tk' }) (e : ∃ t, v' = f t) (k : s.heap.StaysIn h') : Q v' { s with heap := h', toks := tk' } := by
  obtain ⟨t, rfl⟩ := e
  exact hret t _ _ k
end


section
variable {Q : Value → Shared → Prop} {s : Shared} {h₀ h' : Heap} {L l : Addr} {o : Obj} {m : Str → Option Value} {news : List (Addr × Obj)}
theorem news_fresh (N : News h₀ L h' ((l, o) :: news)) : h₀.get? l = none := (N _ (.head _)).2.2
theorem news_ne {h : Heap} (N : News h₀ L h news) (hn : h.get? l = none) : ∀ p ∈ news, p.1 ≠ l := fun p hp e => by
  have z := (N p hp).1
  rw [e, hn] at z; cases z
theorem upd2 {d : Addr} {o o' : Obj} {p : Addr × Obj} {r : List (Addr × Obj)} (h : p.1 ≠ d) (h2 : ∀ q ∈ r, q.1 ≠ d) : Upd d o o' (p :: (d, o) :: r) (p :: (d, o') :: r) := .tail h (.head h2)
theorem news_add {h : Heap} (F : Fr h₀ L h m) (N : News h₀ L h news) (k : h.StaysIn h') (e : h'.get? l = some o) (hn : h.get? l = none) : News h₀ L h' ((l, o) :: news) := by
  intro p hp
  rcases List.mem_cons.mp hp with rfl | hp
  · refine ⟨e, ?_, ?_⟩
    · intro q
      have q' : l = L := q
      obtain ⟨oL, _, _, hL, _⟩ := F.ns
      rw [q', hL] at hn; cases hn
    · cases q : h₀.get? l with
      | none => rfl
      | some o' => rw [F.keep _ _ q] at hn; cases hn
  · exact ⟨k _ _ (N p hp).1, (N p hp).2⟩
end

section
variable {M : Model} {A : Around} {α : Type} {Q : α → Shared → Prop} {E : Value → Shared → Prop} {s : Shared}
theorem on_if_false {x y : Sem α} (h : wpOn M A y Q E s) : wpOn M A (if false = true then x else y) Q E s := h
end
theorem shr8 (x : Int) : x.fdiv (2 ^ Int.toNat 8) = x / 256 := Int.fdiv_eq_ediv_of_nonneg _ (by decide)
theorem shr10 (x : Int) : x.fdiv (2 ^ Int.toNat 10) = x / 1024 := Int.fdiv_eq_ediv_of_nonneg _ (by decide)
theorem bitAnd_m10 (x : Int) : Builtin.bitAnd x 1023 = x % 1024 := kbt_mask x 10
theorem rangeSize_ab {a b : Int} (h : a ≤ b) : Builtin.Range.rangeSize a b 1 = b - a := by
  unfold Builtin.Range.rangeSize
  rw [if_pos (by lia)]
  split
  · rw [Int.ediv_one]; lia
  · lia
theorem small_ab {a b : Int} (ha : 0 ≤ a) (h : a ≤ b) (hb : b < 2 ^ 40) : Builtin.Range.small a b 1 = true := by
  unfold Builtin.Range.small
  rw [rangeSize_ab h]
  simp only [Builtin.Range.rangeFitsLong, Bool.and_eq_true, Bool.or_eq_true, decide_eq_true_eq, beq_iff_eq, show ((1 : Int) > 0) by decide, if_true]
  lia
theorem str_len (cs : List Nat) : ({ cps := cs.toArray } : Str).length = cs.length := by simp [Str.length]
theorem char_at {cs : List Nat} {k : Int} {i : Nat} (hk : k = i) (h : i < cs.length) : (Txt.charAt { cps := cs.toArray } k).getD 0 = cs[i] := by
  subst hk
  have e : seqIndex? (i : Int) ({ cps := cs.toArray } : Str).length = some i := by
    rw [str_len]; unfold seqIndex?
    simp; lia
  unfold Txt.charAt
  rw [e]
  simp [h]

/-- a goal at which the walk halts -/
noncomputable def Halt (P : Prop) : Prop := P
theorem halt {P : Prop} (h : Halt P) : P := h
theorem unhalt {P : Prop} (h : P) : Halt P := h

/-! plain expressions in one step -/
structure EC where
  prog : Program
  w : World
  h₀ : Heap
  env : Env
  m : Str → Option Value
noncomputable def EvI (C : EC) (e : PySem.Expr) (x : Int) : Prop := ∀ (A : Around) (E : Value → Shared → Prop) (s : Shared) (Q : Value → Shared → Prop), Fr C.h₀ C.env.locals s.heap C.m → (∀ t tk, Q (.int x t) { s with toks := tk }) → wpAny (model C.prog C.w) A (eval e C.env) Q E s
noncomputable def EvT (C : EC) (e : PySem.Expr) (P N : Prop) : Prop := ∀ (A : Around) (E : Value → Shared → Prop) (s : Shared) (K : Bool → Shared → Prop), Fr C.h₀ C.env.locals s.heap C.m → (P → ∀ tk, K true { s with toks := tk }) → (N → ∀ tk, K false { s with toks := tk }) → wpAny (model C.prog C.w) A (isTrue e C.env (eval e C.env)) K E s
noncomputable def EvN (C : EC) (n : String) : Prop := ∀ (A : Around) (E : Value → Shared → Prop) (s : Shared) (Q : Value → Shared → Prop) (pos : Pos), Fr C.h₀ C.env.locals s.heap C.m → Q (.builtin n) s → wpAny (model C.prog C.w) A (eval (.Name (Str.ofString n) pos) C.env) Q E s
section
variable {C : EC} {l r9 e e2 : PySem.Expr} {a b c : Int} {pos px : Pos} {x : Str} {P P2 N N2 : Prop} {t : Tok}
theorem EvI.name (hm9 : C.m x = some (.int a t)) (hk9 : C.env.scope.kind = .function) (hx9 : C.env.kindOf x = some .local) (hd9 : (x == ("__debug__" : Str)) = false) : EvI C (.Name x pos) a :=
  fun _ _ s _ F h => wpAny_Name (wpAny_loadName_local hk9 hx9 F.ns hm9 (h t s.toks)) hd9
theorem EvI.const {kk : Nat} : EvI C (.Constant (.int a) kk pos) a := fun _ _ _ _ _ h => wpAny_Constant_int (h _ _)
theorem EvI.bin {op : Operator} (h19 : EvI C l a) (h29 : EvI C r9 b) (h : ∀ (A : Around) (E : Value → Shared → Prop) (s : Shared) (Q : Value → Shared → Prop) (t u : Tok), (∀ t tk, Q (.int c t) { s with toks := tk }) → wpAny (model C.prog C.w) A (binaryOp op (.int a t) (.int b u)) Q E s) : EvI C (.BinOp l op r9 pos) c :=
  fun A E _ _ F k => wpAny_BinOp (h19 A E _ _ F fun t tk => h29 A E _ _ F fun u tk2 => h A E _ _ t u fun t tk => k t tk)
theorem EvI.add (h19 : EvI C l a) (h29 : EvI C r9 b) : EvI C (.BinOp l .Add r9 pos) (a + b) := EvI.bin h19 h29 fun _ _ _ _ _ _ k => add_int (k _ _)
theorem EvI.sub (h19 : EvI C l a) (h29 : EvI C r9 b) : EvI C (.BinOp l .Sub r9 pos) (a - b) := EvI.bin h19 h29 fun _ _ _ _ _ _ k => sub_int (k _ _)
theorem EvI.mul (h19 : EvI C l a) (h29 : EvI C r9 b) (hm9 : IntMulOk a b) : EvI C (.BinOp l .Mult r9 pos) (a * b) := EvI.bin h19 h29 fun _ _ _ _ _ _ k => mul_int (k _ _) hm9
theorem EvI.fdiv (h19 : EvI C l a) (h29 : EvI C r9 b) (hb9 : b ≠ 0) (hp9 : b.natAbs.log2 < 9000) : EvI C (.BinOp l .FloorDiv r9 pos) (a.fdiv b) := EvI.bin h19 h29 fun _ _ _ _ _ _ k => floordiv_int hb9 (k _ _) (.inl (PyProof.noPylong_of_log2 hp9))
theorem EvI.fmod (h19 : EvI C l a) (h29 : EvI C r9 b) (hb9 : b ≠ 0) : EvI C (.BinOp l .Mod r9 pos) (a.fmod b) := EvI.bin h19 h29 fun _ _ _ _ _ _ k => mod_int' hb9 (k _ _)
theorem EvI.shr (h19 : EvI C l a) (h29 : EvI C r9 b) (hb9 : 0 ≤ b) : EvI C (.BinOp l .RShift r9 pos) (a.fdiv (2 ^ b.toNat)) := EvI.bin h19 h29 fun _ _ _ _ _ _ k => rshift_int hb9 (k _ _)
theorem EvI.shl (h19 : EvI C l a) (h29 : EvI C r9 b) (hb9 : 0 ≤ b) (hb29 : b ≤ 1000000) (ha9 : a.natAbs < 2 ^ 64) : EvI C (.BinOp l .LShift r9 pos) (a * 2 ^ b.toNat) := EvI.bin h19 h29 fun _ _ _ _ _ _ k => lshift_int_small hb9 hb29 ha9 (k _ _)
theorem EvI.band (h19 : EvI C l a) (h29 : EvI C r9 b) : EvI C (.BinOp l .BitAnd r9 pos) (Builtin.bitAnd a b) := EvI.bin h19 h29 fun _ _ _ _ _ _ k => and_int (k _ _)
theorem EvI.pow (h19 : EvI C l a) (h29 : EvI C r9 b) (hb9 : 0 ≤ b) (hb29 : b ≤ 1000000) (ha9 : a.natAbs < 2 ^ 64) : EvI C (.BinOp l .Pow r9 pos) (a ^ b.toNat) := EvI.bin h19 h29 fun _ _ _ _ _ _ k => pow_int_small hb9 hb29 ha9 (k _ _)
theorem EvN.mk {prog p : Program} {w : World} {lz : List Str} {mean : ExcName → Option Value} {mg mb : Str → Option Value} {h₀ : Heap} {cn : Str} {cs : Scope} {L f : Addr} {ccd : Value} {cl : List (Str × Addr)} {m : Str → Option Value} {n : String}
    (X : (hd.heap_39 w.params).In h₀) (T : Top p lz mean mg mb h₀) (e : nsIn (hd.heap_39 w.params) mainGlobals (Str.ofString n) = some none) (hv9 : bootBuiltins (Str.ofString n) = some (.builtin n)) (hn9 : Str.ofString n ≠ "__name__")
    (hk9 : cs.kind = .function) (hx9 : (envX cn cs L f ccd cl).kindOf (Str.ofString n) = some .globalImplicit) (hd9 : (Str.ofString n == ("__debug__" : Str)) = false) : EvN ⟨prog, w, h₀, envX cn cs L f ccd cl, m⟩ n :=
  fun _ _ _ _ _ F k => nameX_B F X (topRead_of T) e hv9 hn9 k hk9 hx9 hd9
theorem EvI.lenB {bb : Array UInt8} {os : List Int} (hN9 : EvN C "len") (hm9 : C.m x = some (.bytes bb t)) (hk9 : C.env.scope.kind = .function) (hx9 : C.env.kindOf x = some .local) (hd9 : (x == ("__debug__" : Str)) = false) (hb9 : KBw.bInts bb = os) (hf9 : os.length ≤ 1099511627776) :
    EvI C (.Call (.Name (Str.ofString "len") pos) [.Name x px] [] pos) (os.length : Nat) :=
  fun A E _ _ F k => Call_ (hN9 A E _ _ _ F (callWith_builtin1 (args_cons (wpAny_Name (wpAny_loadName_local hk9 hx9 F.ns hm9 (args_nil (KBw.len_K hb9 hf9 (k _ _)))) hd9))))
theorem EvI.lenS {z : Str} {n : Nat} {p1 p2 : Pos} (hN9 : EvN C "len") (hm9 : C.m x = some (.str z t)) (hk9 : C.env.scope.kind = .function) (hx9 : C.env.kindOf x = some .local) (hd9 : (x == ("__debug__" : Str)) = false) (hz9 : z.length = n) (hf9 : n < 2 ^ 62) :
    EvI C (.Call (.Name (Str.ofString "len") p1) [.Name x px] [] p2) (z.length : Nat) :=
  fun A E _ _ F k => Call_ (hN9 A E _ _ _ F (callWith_builtin1 (args_cons (wpAny_Name (wpAny_loadName_local hk9 hx9 F.ns hm9 (args_nil (PySem.P.len_str (by lia) (k _ _)))) hd9))))
theorem EvI.itemB {bb : Array UInt8} {os : List Int} (hm9 : C.m x = some (.bytes bb t)) (hk9 : C.env.scope.kind = .function) (hx9 : C.env.kindOf x = some .local) (hd9 : (x == ("__debug__" : Str)) = false) (hb9 : KBw.bInts bb = os) (hf9 : os.length ≤ 1099511627776) (h19 : EvI C l a) (h09 : 0 ≤ a) (ha9 : a < (os.length : Int))
    (hs9 : ∀ t u, subscripted l false (.bytes bb t) (.int a u) = operate [.bytes bb t, .int a u] (getItem (.bytes bb t) (.int a u))) : EvI C (.Subscript (.Name x px) l pos) (os.getD a.toNat 0) :=
  fun A E _ _ F k => Subscript_ (wpAny_Name (wpAny_loadName_local hk9 hx9 F.ns hm9 (h19 A E _ _ F fun u tk => KBw.item_K hb9 hf9 h09 ha9 (fun t' k' _ _ => k t' k') (hs9 _ _) (fun _ => rfl))) hd9)
theorem EvI.ordS {z : Str} {p1 p2 : Pos} (hN9 : EvN C "ord") (hm9 : C.m x = some (.str z t)) (hk9 : C.env.scope.kind = .function) (hx9 : C.env.kindOf x = some .local) (hd9 : (x == ("__debug__" : Str)) = false) (h19 : EvI C l a) (h09 : 0 ≤ a) (ha9 : a < (z.length : Int)) (hf9 : z.length < 2 ^ 62)
    (hs9 : ∀ t u, subscripted l false (.str z t) (.int a u) = operate [.str z t, .int a u] (getItem (.str z t) (.int a u))) : EvI C (.Call (.Name (Str.ofString "ord") p1) [.Subscript (.Name x px) l pos] [] p2) (((Txt.item z a).cps.getD 0 0 : Nat) : Int) :=
  fun A E _ _ F k => Call_ (hN9 A E _ _ _ F (callWith_builtin1 (args_cons (Subscript_ (wpAny_Name (wpAny_loadName_local hk9 hx9 F.ns hm9 (h19 A E _ _ F fun u tk =>
    item_str (fitsSsize_of (N := 9223372036854775808) (by lia) (by lia) (Int.le_refl _)) (by lia) ha9 (fun e => args_nil (ord_of_one (by lia) (k _ _))) (hs9 _ _) (fun _ => rfl))) hd9)))))
theorem EvT.cmp {op : CmpOp} (h19 : EvI C l a) (h29 : EvI C r9 b) (hm9 : behindInMarks op r9 = false) (h : ∀ (A : Around) (E : Value → Shared → Prop) (s : Shared) (Q : Value → Shared → Prop) (t u : Tok) (d : Bool), (d = true ↔ P) → Q (.bool d) s → (∀ d', (d' = true ↔ P) → Q (.bool d') s) → wpAny (model C.prog C.w) A (compareOp op (.int a t) (.int b u)) Q E s) (d : Bool) (hd9 : d = true ↔ P) :
    EvT C (.Compare l [op] [r9] pos) P (¬ P) := fun A E _ K F k1 k2 =>
  wpAny_isTrue_Compare1 (h19 A E _ _ F fun t tk => h29 A E _ _ F fun u tk2 => h A E _ _ t u d hd9 (wpAny_truthy_bool (by
    cases d with
    | true => exact k1 (hd9.mp rfl) _
    | false => exact k2 (fun q => Bool.false_ne_true (hd9.mpr q)) _)) fun d' hd' => wpAny_truthy_bool (by
    cases d' with
    | true => exact k1 (hd'.mp rfl) _
    | false => exact k2 (fun q => Bool.false_ne_true (hd'.mpr q)) _)) hm9
theorem EvT.lt (h19 : EvI C l a) (h29 : EvI C r9 b) (hm9 : behindInMarks .Lt r9 = false) : EvT C (.Compare l [.Lt] [r9] pos) (a < b) (¬ (a < b)) := EvT.cmp h19 h29 hm9 (fun _ _ _ _ _ _ _ _ _ k => lt_int (k _ decide_eq_true_iff)) (decide (a < b)) decide_eq_true_iff
theorem EvT.gt (h19 : EvI C l a) (h29 : EvI C r9 b) (hm9 : behindInMarks .Gt r9 = false) : EvT C (.Compare l [.Gt] [r9] pos) (b < a) (¬ (b < a)) := EvT.cmp h19 h29 hm9 (fun _ _ _ _ _ _ _ _ _ k => gt_int (k _ decide_eq_true_iff)) (decide (b < a)) decide_eq_true_iff
theorem EvT.eq (h19 : EvI C l a) (h29 : EvI C r9 b) (hm9 : behindInMarks .Eq r9 = false) : EvT C (.Compare l [.Eq] [r9] pos) (a = b) (¬ (a = b)) := EvT.cmp h19 h29 hm9 (fun _ _ _ _ _ _ _ _ _ k => eq_int (k _ beq_iff_eq)) (a == b) beq_iff_eq
theorem EvT.ne (h19 : EvI C l a) (h29 : EvI C r9 b) (hm9 : behindInMarks .NotEq r9 = false) : EvT C (.Compare l [.NotEq] [r9] pos) (a ≠ b) (a = b) := fun A E s K F k1 k2 =>
  EvT.cmp (P := a ≠ b) h19 h29 hm9 (fun _ _ _ _ _ _ _ _ _ k => ne_int (k _ bne_iff_ne)) (a != b) bne_iff_ne A E s K F k1 fun q => k2 (Decidable.not_not.mp q)
theorem EvT.between (h19 : EvI C l a) (h29 : EvI C e b) (h39 : EvI C r9 c) (hm9 : lastMarks [.LtE, .LtE] [e, r9] = false) : EvT C (.Compare l [.LtE, .LtE] [e, r9] pos) (a ≤ b ∧ b ≤ c) (¬ (a ≤ b ∧ b ≤ c)) := fun A E _ K F k1 k2 =>
  isTrue_chain (h19 A E _ _ F fun t tk => test_link (h29 A E _ _ F fun u tk2 => le_int (wpAny_truthy_bool (by
    by_cases q : a ≤ b
    · rw [decide_eq_true q, if_pos rfl]
      refine test_last (h39 A E _ _ F fun v tk3 => le_int (wpAny_truthy_bool ?_))
      by_cases q2 : b ≤ c
      · rw [decide_eq_true q2]; exact k1 ⟨q, q2⟩ _
      · rw [decide_eq_false q2]; exact k2 (fun z => q2 z.2) _
    · rw [decide_eq_false q, if_neg Bool.false_ne_true]; exact k2 (fun z => q z.1) _)))) hm9
theorem EvT.not (h : EvT C e P N) : EvT C (.UnaryOp .Not e pos) N P := fun A E _ _ F k1 k2 => isTrue_not (h A E _ _ F (fun q tk => k2 q tk) fun q tk => k1 q tk)
theorem EvT.and (h19 : EvT C e P N) (h29 : EvT C e2 P2 N2) : EvT C (.BoolOp .And [e, e2] pos) (P ∧ P2) (N ∨ N2) := fun A E _ _ F k1 k2 =>
  isTrue_and (h19 A E _ _ F (fun q tk => isTrue_and (h29 A E _ _ F (fun q2 tk2 => isTrue_and_nil (k1 ⟨q, q2⟩ _)) fun q2 tk2 => k2 (.inr q2) _)) fun q tk => k2 (.inl q) _)
theorem EvT.or (h19 : EvT C e P N) (h29 : EvT C e2 P2 N2) : EvT C (.BoolOp .Or [e, e2] pos) (P ∨ P2) (N ∧ N2) := fun A E _ _ F k1 k2 =>
  isTrue_or (h19 A E _ _ F (fun q tk => k1 (.inl q) _) fun q tk => isTrue_or (h29 A E _ _ F (fun q2 tk2 => k1 (.inr q2) _) fun q2 tk2 => isTrue_or_nil (k2 ⟨q, q2⟩ _)))
end
section
variable {prog : Program} {w : World} {A : Around} {E : Value → Shared → Prop} {s : Shared} {h₀ : Heap} {env : Env} {L : Addr} {m : Str → Option Value} {e : PySem.Expr}
theorem ev_int {x : Int} {Q : Value → Shared → Prop} (F : Fr h₀ L s.heap m) (hL9 : env.locals = L) (h : EvI ⟨prog, w, h₀, env, m⟩ e x) (k : ∀ t tk, Q (.int x t) { s with toks := tk }) : wpAny (model prog w) A (eval e env) Q E s := by
  subst hL9; exact h A E s Q F k
theorem ev_test {P N : Prop} {K : Bool → Shared → Prop} (F : Fr h₀ L s.heap m) (hL9 : env.locals = L) (h : EvT ⟨prog, w, h₀, env, m⟩ e P N) (k1 : P → ∀ tk, K true { s with toks := tk }) (k2 : N → ∀ tk, K false { s with toks := tk }) :
    wpAny (model prog w) A (isTrue e env (eval e env)) K E s := by
  subst hL9; exact h A E s K F k1 k2
end

local macro_rules | `(tactic| walk_at $s:str) => if "storeName,exec If,eval ListComp,exec Assign cons ListComp,getMethod ref,getMethod bytes,call type:bytes,exec While,exec While BoolOp,exec While Compare,binaryOp RShift int int,binaryOp FloorDiv int int,eval BinOp,eval Call,isTrue Compare,isTrue BoolOp,isTrue UnaryOp,execs cons,call ref,InvEndN,KswEnd,compareOp In int bytes,pyIter ref,pyIter str,exec For Name Name cons nil,exec For Name BinOp cons nil,exec Raise some none".splitOn "," |>.contains s.getString then `(tactic| k_extra $s) else Lean.Macro.throwUnsupported
theorem keys1 : True := by
  k_with "eval ListComp" => ((k_here; k_dflt (refine ListComp_G (by k_asm) (by with_unfolding_all rfl) (by decide) (by rfl) (by decide) (by rfl) ?_)))
  k_with "exec Assign cons ListComp" => ((k_here; k_dflt (refine Assign_ListComp_G (by k_asm) (by rfl) (by with_unfolding_all rfl) (by with_unfolding_all rfl) (by decide) (by rfl) (by decide) (by rfl) (by rfl) (by rfl) ?_)))
  k_with "enter_s" => ((k_dflt ((case k6 => k_is); (case k7 => k_is); (case k9 => exact BindsTo.of_eq rfl); (case c5 => decide); (case kB => exact locs rfl); (case c2 => exact rfl); (case c3 => exact rfl); (case c4 => exact rfl)); k_whole; intro L1 h1 F1 N1 B1 X1 T1 hroom hunits; (try dsimp only [List.reverse_cons, List.reverse_nil, List.nil_append, List.cons_append]); (try k_fold)))
  k_with "enter_c" => ((k_dflt ((case k6 => k_is); (case k7 => k_is); (case k9 => exact BindsTo.of_eq rfl); (case kB => exact rfl); (case kD => decide +kernel); (case c2 => exact rfl); (case c3 => exact rfl); (case c4 => exact rfl)); k_whole; intro L1 h1 tk1 cells1 F1 N1 Y1 B1 X1 T1 hroom hunits; (first
  | (have hY := CellsAre.one Y1; obtain ⟨o1, hE1, d1⟩ := hY; subst hE1; clear Y1)
  | (have hY := CellsAre.two Y1; obtain ⟨o1, o2, hE1, d1, d2⟩ := hY; subst hE1; clear Y1)
  | (have hY := CellsAre.three Y1; obtain ⟨o1, o2, o3, hE1, d1, d2, d3⟩ := hY; subst hE1; clear Y1)
  | (have hY := CellsAre.four Y1; obtain ⟨o1, o2, o3, o4, hE1, d1, d2, d3, d4⟩ := hY; subst hE1; clear Y1)); (try simp only [List.cons_append, List.nil_append] at N1); (try dsimp only [List.reverse_cons, List.reverse_nil, List.nil_append, List.cons_append]); (try k_fold)))
  k_with "inv_end" => (((case hF => assumption); (case hN => assumption); (case hn => kst_in); (case ho => kst_in); (case ha => rfl); (case hf => first | assumption | trivial | skip); (case hk => kst_all); (case hr => first | kst_same | (intro z hz1 hz2 hz3; simp [hz1, kstB]; done) | (intro z hz1 hz2 hz3; simp at hz3; simp [hz1, hz3, kstB]; done) | (walk_at "hrs"; done))))
  k_with "inv_end2" => (((case hF2 => assumption); (case hN2 => assumption); (case hn2 => kst_in); (case ho2 => kst_in); (case ha2 => rfl); (case hf2 => first | assumption | trivial | skip); (case hk2 => kst_all); (case hr2 => first | kst_same | (intro z hz1 hz2 hz3; simp [hz1, kstB]; done) | (intro z hz1 hz2 hz3; simp at hz3; simp [hz1, hz3, kstB]; done) | (walk_at "hrs"; done))))
  k_with "inv_end3" => (((case hF3 => assumption); (case hN3 => assumption); (case hn3 => kst_in); (case ho3 => kst_in); (case ha3 => rfl); (case hf3 => first | assumption | trivial | skip); (case hk3 => kst_all); (case hr3 => first | kst_same | (intro z hz1 hz2 hz3; simp [hz1, kstB]; done) | (intro z hz1 hz2 hz3; simp at hz3; simp [hz1, hz3, kstB]; done) | (walk_at "hrs"; done))))
  k_with "inv_end4" => (((case hF4 => assumption); (case hN4 => assumption); (case hn4 => kst_in); (case ho4 => kst_in); (case ha4 => rfl); (case hf4 => first | assumption | trivial | skip); (case hk4 => kst_all); (case hr4 => first | kst_same | (intro z hz1 hz2 hz3; simp [hz1, kstB]; done) | (intro z hz1 hz2 hz3; simp at hz3; simp [hz1, hz3, kstB]; done) | (walk_at "hrs"; done))))
  k_with "side" => (first | (with_reducible assumption) | lia | assumption | (simp only [List.length_take, List.length_drop]; lia))
  k_with "getMethod ref" => ((k_here; (with_reducible show wpAny _ _ (getMethod (Value.ref _) (PySem.Str.ofString "append") _) _ _ _); k_dflt (refine' BA.methodN (by k_asm) (by k_mem) BA.slot_append BA.type_append ?_)))
  k_with "getMethod ref" => ((k_here; (with_reducible show wpAny _ _ (getMethod (Value.ref _) (PySem.Str.ofString "extend") _) _ _ _); k_dflt (refine' BA.methodN (by k_asm) (by k_mem) BA.slot_extend BA.type_extend ?_)))
  k_with "call type:bytes" => ((k_here; (with_reducible show wpAny _ _ (call (Value.type "bytes") [Value.ref _]) _ _ _); k_dflt (refine' BA.bytesN (by k_asm) (by k_mem) (by walk_at "size") ?_); intro _ _))
  k_with "size" => (first | lia | (rw [sizeLine_eq]; lia) | (simp only [List.length_append, List.length_cons, List.length_nil, sizeLine_eq]; lia))
  k_with "byte" => (first | lia | (simp only [shr8, shr10, bitAnd_m8, bitAnd_m10]; lia))
  k_with "wpOn" => ((k_here; first
  | ((with_reducible show wpOn _ _ (execs [] _) _ _ _); refine on_execs_nil ?_)
  | ((with_reducible show wpOn _ _ (execs (Stmt.Expr (Expr.Call (Expr.Attribute _ _ _) _ _ _) _ :: _) _) _ _ _); k_dflt refine on_execs_cons (on_Expr (on_method ?_)))
  | ((with_reducible show wpOn _ _ (execs (Stmt.Assign _ (Expr.Call (Expr.Name (Str.ofString "bytearray") _) _ _ _) _ :: _) _) _ _ _); k_dflt refine on_execs_cons (on_Assign (on_Call (f := .none) ?_)))
  | ((with_reducible show wpOn _ _ (execs (Stmt.If _ _ _ _ :: _) _) _ _ _); refine on_execs_cons (on_If ?_))
  | ((with_reducible show wpOn _ _ (execs (Stmt.For (Expr.Name _ _) _ _ [] _ :: _) _) _ _ _); k_dflt refine on_execs_cons (on_ForOn (Fr.base (by with_reducible assumption)) (by rfl) (by rfl) ?_))
  | ((with_reducible show wpOn _ _ (execs (_ :: _) _) _ _ _); (fail_if_success (with_reducible show wpOn _ _ (execs (Stmt.While _ _ _ _ :: _) _) _ _ _)); refine on_execs_any ?_)
  | ((with_reducible show wpOn _ _ (callWith _ (Value.builtin _) _ _ _) _ _ _); k_dflt refine on_callWith_m rfl rfl (on_evalArgs (on_spliced_cons ?_)))
  | ((with_reducible show wpOn _ _ (callWith _ (Value.type _) _ _ _) _ _ _); k_dflt refine on_callWith_m rfl rfl (on_evalArgs0 ?_))
  | ((with_reducible show wpOn _ _ (spliced []) _ _ _); refine on_spliced_nil ?_)
  | ((with_reducible show wpOn _ _ (spliced (List.map _ _)) _ _ _); refine on_spliced_nil ?_; (try dsimp only))
  | ((with_reducible show wpOn _ _ (eval _ _) _ _ _); refine on_any ?_)
  | ((with_reducible show wpOn _ _ (call (Value.builtin "bytearray.append") _) _ _ _); k_dflt (refine' BA.appendN (by k_asm) (by k_asm) (by k_upd) (by walk_at "byte") (by walk_at "byte") (by walk_at "size") ?_); intro _ _ _; (try dsimp only))
  | ((with_reducible show wpOn _ _ (call (Value.builtin "bytearray.extend") _) _ _ _); k_dflt (refine' BA.extendN (by k_asm) (by k_asm) (by kba_ints) (by k_upd) (by walk_at "size") ?_); intro _ _ _; (try dsimp only))
  | ((with_reducible show wpOn _ _ (call (Value.type "bytearray") _) _ _ _); k_dflt (refine' BA.newN (by k_asm) (by k_asm) ?_); intro _ _ _ _ _; (try dsimp only))
  | ((with_reducible show wpOn _ _ (ite (false = true) _ _) _ _ _); refine on_if_false ?_)
  | (dsimp only; (with_reducible show wpOn _ _ (call _ _) _ _ _); fail_if_success (with_reducible show wpOn _ _ (call (Value.builtin "no") _) _ _ _))))
  k_with "exec While" => ((k_here; (with_reducible show wpAny _ _ (exec (Stmt.While _ _ _ _) _) _ _ _); refine halt ?_))
  k_with "exec While BoolOp" => ((k_here; (with_reducible show wpAny _ _ (exec (Stmt.While _ _ _ _) _) _ _ _); refine halt ?_))
  k_with "exec While Compare" => ((k_here; (with_reducible show wpAny _ _ (exec (Stmt.While _ _ _ _) _) _ _ _); refine halt ?_))
  k_with "while_end" => (((case wF => assumption); (case wN => assumption); (case wn => kst_in); (case wf => first | assumption | trivial | skip); (case wk => first | (intro p hp; cases List.mem_singleton.mp hp; with_unfolding_all rfl) | kst_all | (intro p hp; simp at hp; simp [hp]; done) | skip); (case wr => first | ksw_same | (intro z hz2 hz3; simp at hz2; simp [hz2, kstB]; done) | (intro z hz2 hz3; simp at hz2 hz3; simp [hz2, hz3, kstB]; done) | skip)))
  k_with "while_end2" => (((case wF2 => assumption); (case wN2 => assumption); (case wn2 => kst_in); (case wf2 => first | assumption | trivial | skip); (case wk2 => first | (intro p hp; cases List.mem_singleton.mp hp; with_unfolding_all rfl) | kst_all | (intro p hp; simp at hp; simp [hp]; done) | skip); (case wr2 => first | ksw_same | (intro z hz2 hz3; simp at hz2; simp [hz2, kstB]; done) | (intro z hz2 hz3; simp at hz2 hz3; simp [hz2, hz3, kstB]; done) | skip)))
  k_with "while_end3" => (((case wF3 => assumption); (case wN3 => assumption); (case wn3 => kst_in); (case wf3 => first | assumption | trivial | skip); (case wk3 => first | (intro p hp; cases List.mem_singleton.mp hp; with_unfolding_all rfl) | kst_all | (intro p hp; simp at hp; simp [hp]; done) | skip); (case wr3 => first | ksw_same | (intro z hz2 hz3; simp at hz2; simp [hz2, kstB]; done) | (intro z hz2 hz3; simp at hz2 hz3; simp [hz2, hz3, kstB]; done) | skip)))
  k_with "while_end4" => (((case wF4 => assumption); (case wN4 => assumption); (case wn4 => kst_in); (case wf4 => first | assumption | trivial | skip); (case wk4 => first | (intro p hp; cases List.mem_singleton.mp hp; with_unfolding_all rfl) | kst_all | (intro p hp; simp at hp; simp [hp]; done) | skip); (case wr4 => first | ksw_same | (intro z hz2 hz3; simp at hz2; simp [hz2, kstB]; done) | (intro z hz2 hz3; simp at hz2 hz3; simp [hz2, hz3, kstB]; done) | skip)))
  k_with "binaryOp RShift int int" => ((k_here; (with_reducible refine rshift_int (by lia) ?_)))
  k_with "sitn" => (first | with_reducible assumption | exact Room.le (by assumption) (by lia) | exact Units.le (by assumption) (by lia))
  k_with "sit" => ((case B => k_asm); (case F => k_asm); (case X => k_asm); (case T => k_asm); (case r => walk_at "sitn"); (case u => walk_at "sitn"))
  trivial

theorem keys2 : True := by
  k_with "evN" => (exact EvN.mk (by assumption) (by assumption) (by k_is) (by boot_by_name) (by decide) rfl rfl rfl)
  k_with "evs" => (first | decide | with_reducible assumption | (with_reducible lia))
  k_with "ev" => (first
  | ((with_reducible show EvI _ (Expr.Constant _ _ _) _); exact EvI.const)
  | ((with_reducible show EvI _ (Expr.Name _ _) _); exact EvI.name rfl rfl rfl rfl)
  | ((with_reducible show EvI _ (Expr.BinOp _ Operator.Add _ _) _); (with_reducible apply EvI.add) <;> walk_at "ev")
  | ((with_reducible show EvI _ (Expr.BinOp _ Operator.Sub _ _) _); (with_reducible apply EvI.sub) <;> walk_at "ev")
  | ((with_reducible show EvI _ (Expr.BinOp _ Operator.Mult _ _) _); (with_reducible apply EvI.mul); walk_at "ev"; walk_at "ev"; first | exact PySem.IntMulOk.of_right (PySem.intBits_le_64 (by first | decide | (with_reducible lia)) (by first | decide | (with_reducible lia))) | exact PySem.IntMulOk.of_left (PySem.intBits_le_64 (by first | decide | (with_reducible lia)) (by first | decide | (with_reducible lia))) | mul_fits)
  | ((with_reducible show EvI _ (Expr.BinOp _ Operator.FloorDiv _ _) _); (with_reducible apply EvI.fdiv); walk_at "ev"; walk_at "ev"; walk_at "evs"; walk_at "evs")
  | ((with_reducible show EvI _ (Expr.BinOp _ Operator.Mod _ _) _); (with_reducible apply EvI.fmod); walk_at "ev"; walk_at "ev"; walk_at "evs")
  | ((with_reducible show EvI _ (Expr.BinOp _ Operator.RShift _ _) _); (with_reducible apply EvI.shr); walk_at "ev"; walk_at "ev"; walk_at "evs")
  | ((with_reducible show EvI _ (Expr.BinOp _ Operator.LShift _ _) _); (with_reducible apply EvI.shl); walk_at "ev"; walk_at "ev"; walk_at "evs"; walk_at "evs"; first | assumption | (with_reducible lia))
  | ((with_reducible show EvI _ (Expr.BinOp _ Operator.BitAnd _ _) _); (with_reducible apply EvI.band) <;> walk_at "ev")
  | ((with_reducible show EvI _ (Expr.Call (Expr.Name (Str.ofString "len") _) _ _ _) _); (with_reducible apply EvI.lenB); rotate_left; exact rfl; rotate_right; walk_at "evN"; exact rfl; exact rfl; exact rfl; kba_ints; walk_at "evs")
  | ((with_reducible show EvI _ (Expr.Call (Expr.Name (Str.ofString "len") _) _ _ _) _); (with_reducible apply EvI.lenS); rotate_left; exact rfl; rotate_right; walk_at "evN"; exact rfl; exact rfl; exact rfl; assumption; walk_at "evs")
  | ((with_reducible show EvI _ (Expr.Subscript (Expr.Name _ _) _ _) _); (with_reducible apply EvI.itemB); exact rfl; exact rfl; exact rfl; exact rfl; kba_ints; walk_at "evs"; walk_at "ev"; walk_at "evs"; walk_at "evs"; (intro _ _; with_unfolding_all rfl))
  | ((with_reducible show EvI _ (Expr.Call (Expr.Name (Str.ofString "ord") _) _ _ _) _); (with_reducible apply EvI.ordS); rotate_left; exact rfl; rotate_right; walk_at "evN"; exact rfl; exact rfl; exact rfl; walk_at "ev"; walk_at "evs"; walk_at "evs"; walk_at "evs"; (intro _ _; with_unfolding_all rfl)))
  k_with "evT" => (first
  | ((with_reducible show EvT _ (Expr.UnaryOp _ _ _) _ _); (with_reducible apply EvT.not); walk_at "evT")
  | ((with_reducible show EvT _ (Expr.BoolOp BoolOp.And _ _) _ _); (with_reducible apply EvT.and) <;> walk_at "evT")
  | ((with_reducible show EvT _ (Expr.BoolOp BoolOp.Or _ _) _ _); (with_reducible apply EvT.or) <;> walk_at "evT")
  | ((with_reducible show EvT _ (Expr.Compare _ [CmpOp.LtE, CmpOp.LtE] _ _) _ _); (with_reducible apply EvT.between); walk_at "ev"; walk_at "ev"; walk_at "ev"; exact rfl)
  | ((with_reducible show EvT _ (Expr.Compare _ [CmpOp.Lt] _ _) _ _); (with_reducible apply EvT.lt); walk_at "ev"; walk_at "ev"; exact rfl)
  | ((with_reducible show EvT _ (Expr.Compare _ [CmpOp.Gt] _ _) _ _); (with_reducible apply EvT.gt); walk_at "ev"; walk_at "ev"; exact rfl)
  | ((with_reducible show EvT _ (Expr.Compare _ [CmpOp.Eq] _ _) _ _); (with_reducible apply EvT.eq); walk_at "ev"; walk_at "ev"; exact rfl)
  | ((with_reducible show EvT _ (Expr.Compare _ [CmpOp.NotEq] _ _) _ _); (with_reducible apply EvT.ne); walk_at "ev"; walk_at "ev"; exact rfl))
  k_with "evgo" => ((fail_if_success (have := @ev_intL)); (k_dflt (refine' ev_int (by k_asm) rfl (by walk_at "ev") ?_); intro _ _))
  k_with "evgoT" => ((fail_if_success (have := @ev_testL)); ((k_dflt (refine' ev_test (by k_asm) rfl (by walk_at "evT") ?_ ?_)) <;> (intro _ _; first | (exfalso; omega) | ((try dsimp only); (first | refine Eq.mpr (if_pos rfl) ?_ | refine Eq.mpr (if_neg Bool.false_ne_true) ?_ | skip)))))
  k_with "eval BinOp" => ((k_here; walk_at "evgo"))
  k_with "eval Call" => ((k_here; (first | (with_reducible show wpAny _ _ (eval (Expr.Call (Expr.Name (Str.ofString "len") _) [_] [] _) _) _ _ _) | (with_reducible show wpAny _ _ (eval (Expr.Call (Expr.Name (Str.ofString "ord") _) [_] [] _) _) _ _ _)); walk_at "evgo"))
  k_with "isTrue Compare" => ((k_here; walk_at "evgoT"))
  k_with "isTrue BoolOp" => ((k_here; walk_at "evgoT"))
  k_with "isTrue UnaryOp" => ((k_here; walk_at "evgoT"))
  k_with "execs cons" => ((k_here; (try k_gentoks); (with_reducible refine wpAny_execs_cons ?_); (try k_fold); (try dsimp only)))
  trivial

section
variable {prog p : Program} {lz : List Str} {w : World} {mean : ExcName → Option Value} {mg mb : Str → Option Value} {dp un : Nat} {gd : Option (List Code)} {base : Heap} {outer : List Env} {n : Nat}
  {Q E : Value → Shared → Prop} {s : Shared}

set_option maxHeartbeats 4000000 in
theorem ct_is_plain {code : Int} {t : Tok} (S : Sit p lz w mean mg mb dp un gd base outer (n + 1) s.heap)
  (hret : ∀ h' tk', s.heap.StaysIn h' → Q (.bool (decide (32 ≤ code) && decide (code ≤ 126))) { s with heap := h', toks := tk' }) :
  wpAny (model prog w) (ar dp un gd outer) (call (.ref 109) [.int code t]) Q E s := by
  k_dflt refine' enterS (binds := [(Str.ofString "code", .int code t)]) S ?k6 ?k7 ?k9 ?kB ?c2 ?c3 ?c4 ?c5 ?_
  walk_at "enter_s"
  k_steps
  all_goals (refine' ret_v (s := s) hret ?_ (Fr.keep (by assumption)); simp [*])

set_option maxHeartbeats 4000000 in
theorem ct_is_half {code : Int} {t : Tok} (S : Sit p lz w mean mg mb dp un gd base outer (n + 1) s.heap)
  (hret : ∀ h' tk', s.heap.StaysIn h' → Q (.bool (decide (55296 ≤ code) && decide (code ≤ 57343))) { s with heap := h', toks := tk' }) :
  wpAny (model prog w) (ar dp un gd outer) (call (.ref 116) [.int code t]) Q E s := by
  k_dflt refine' enterS (binds := [(Str.ofString "code", .int code t)]) S ?k6 ?k7 ?k9 ?kB ?c2 ?c3 ?c4 ?c5 ?_
  walk_at "enter_s"
  k_steps
  all_goals (refine' ret_v (s := s) hret ?_ (Fr.keep (by assumption)); simp [*])
end

section
variable {prog p : Program} {lz : List Str} {w : World} {mean : ExcName → Option Value} {mg mb : Str → Option Value} {dp un : Nat} {gd : Option (List Code)} {base : Heap} {outer : List Env} {n : Nat}
  {Q E : Value → Shared → Prop} {s : Shared}

noncomputable def gTot (ks : List Int) : Int := ks.foldl (fun t c => 256 * t + c) 0
noncomputable def gCodes (sg ks : List Int) : List Int := (List.range (ks.length + 1)).map fun i => sg.getD ((gTot ks * 2 ^ (6 - 2 * ks.length)) / 2 ^ (6 * (ks.length - i)) % 64).toNat 0
theorem fold_bound {B : Int} (hB : 0 < B) : ∀ (ks : List Int) (t : Int), 0 ≤ t → (∀ k ∈ ks, 0 ≤ k ∧ k < B) → 0 ≤ ks.foldl (fun t c => B * t + c) t ∧ ks.foldl (fun t c => B * t + c) t < (t + 1) * B ^ ks.length
  | [], t, h, _ => ⟨h, by rw [List.length_nil, Int.pow_zero, Int.mul_one]; exact Int.lt_succ t⟩
  | c :: ks, t, h, hk => by
    have hc := hk c (.head _)
    have ih := fold_bound hB ks (B * t + c) (Int.add_nonneg (Int.mul_nonneg (Int.le_of_lt hB) h) hc.1) fun k q => hk k (.tail _ q)
    have e : B * t + c + 1 ≤ (t + 1) * B := by rw [Int.add_mul, Int.one_mul, Int.mul_comm t B, Int.add_assoc]; exact Int.add_le_add_left hc.2 _
    rw [List.length_cons, Int.pow_succ, Int.mul_comm (B ^ ks.length) B, ← Int.mul_assoc]
    exact ⟨ih.1, Int.lt_of_lt_of_le ih.2 (Int.mul_le_mul_of_nonneg_right e (Int.le_of_lt (Int.pow_pos hB)))⟩
theorem tot_bound {B : Int} {n : Nat} (hB : 0 < B) {ks : List Int} (h : ∀ k ∈ ks, 0 ≤ k ∧ k < B) (hl : ks.length ≤ n) (hn : ∀ m, m ≤ n → B ^ m ≤ 16777216) : 0 ≤ ks.foldl (fun t c => B * t + c) 0 ∧ ks.foldl (fun t c => B * t + c) 0 < 16777216 :=
  have q := fold_bound hB ks 0 (Int.le_refl 0) h
  ⟨q.1, Int.lt_of_lt_of_le q.2 (by rw [Int.zero_add, Int.one_mul]; exact hn _ hl)⟩
theorem gTot_bound {ks : List Int} (h : ∀ k ∈ ks, 0 ≤ k ∧ k < 256) (hl : ks.length ≤ 3) : 0 ≤ gTot ks ∧ gTot ks < 16777216 := tot_bound (by decide) h hl (by decide)

set_option maxHeartbeats 4000000 in
theorem ct_group_codes {b al : Array UInt8} {ks sg : List Int} {t t' : Tok} (S : Sit p lz w mean mg mb dp un gd base outer (n + 1) s.heap)
  (hb : KBw.bInts b = ks) (ha : KBw.bInts al = sg) (hsg : sg.length = 64) (hk1 : 1 ≤ ks.length) (hk3 : ks.length ≤ 3)
  (hret : ∀ l ys h' tk', s.heap.StaysIn h' → h'.get? l = some (LCg.lst ys) → s.heap.get? l = none → IntsAre ys (gCodes sg ks) → Q (.ref l) { s with heap := h', toks := tk' }) :
  wpAny (model prog w) (ar dp un gd outer) (call (.ref 76) [.bytes b t, .bytes al t']) Q E s := by
  k_dflt refine' enterC (binds := [(Str.ofString "octets", .bytes b t), (Str.ofString "alphabet", .bytes al t')]) S ?k6 ?k7 ?k9 ?kB ?kD ?c2 ?c3 ?c4 ?_
  walk_at "enter_c"
  k_with "pyIter bytes" => fail "stop"
  k_steps
  rename_i h2 o3 F2 N2 d3
  refine KStb.kst_bytes (σ := Obj × Int × Tok) (fun c => [(L1 + 1 + 1, c.1), (L1 + 1, o2)]) (fun _ => []) (fun c => c.1.data = .cell (some (.int c.2.1 c.2.2))) [] (fun pre c => c.2.1 = gTot pre) ⟨o3, 0, _⟩ hb rfl rfl F2 N2 d3 (fun _ h => nomatch h) rfl ?_ ?_
  · intro c pre post x t u h tk own e hlt h0 h256 hoff hf hp F N
    clear F2 N2
    k_steps
    rename_i o4 _ _ _
    (with_unfolding_all refine' kst_end ⟨o4, 256 * c.2.1 + x, _⟩ ?hF ?hN ?hn ?ho ?ha ?hf ?hk ?hr ?hp); walk_at "inv_end"
    simp [hp, gTot]
  · intro c u h tk e hf hp F N
    clear F2 N2
    obtain ⟨o, tot, tk0⟩ := c
    dsimp only at hf hp F N
    have htot : 0 ≤ tot ∧ tot < 16777216 := by rw [hp]; exact gTot_bound (fun k hk => KBw.ints_in (hb ▸ hk)) hk3
    k_steps
    rename_i hr4 F4 N4 k4
    refine comp_range (n := ks.length + 1) rfl F4 N4 hr4 (small_down (by lia) (by lia) (by lia) (by lia)) (by rw [rangeSize_downNat]; congr 1; lia) (by rw [sizeLine_eq]; lia) ?_
    intro g
    refine comp_each (fun i y => ∃ t, y = .int (sg.getD ((gTot ks * 2 ^ (6 - 2 * ks.length)) / 2 ^ (6 * (ks.length - i)) % 64).toNat 0) t) ?_ trivial ?_
    · rintro i v I oI C oC D m₂ ys h tk E' hi ⟨_, t, rfl⟩ hC hx F5 N5 off ne
      k_steps
      have e1 : (6 * ((ks.length : Int) + 1) - 8 * (ks.length : Int)).toNat = 6 - 2 * ks.length := by lia
      have e2 : (6 * ((ks.length : Int) + 1 - 1 + (i : Int) * -1)).toNat = 6 * (ks.length - i) := by lia
      have e3 : (tot * 2 ^ (6 - 2 * ks.length)).fdiv (2 ^ (6 * (ks.length - i))) = (tot * 2 ^ (6 - 2 * ks.length)) / 2 ^ (6 * (ks.length - i)) := Int.fdiv_eq_ediv_of_nonneg _ (Int.pow_nonneg (by lia))
      refine KBw.item_K ha (by lia) (by rw [bitAnd_m6]; lia) (by rw [bitAnd_m6]; lia) ?_
      intro t2 k2 _ _
      refine LCg.CompEnd.intro F5 N5 _ (fun _ hp => hp) off trivial ⟨rfl, t2, ?_⟩
      rw [bitAnd_m6, e1, e2, e3, hp]
    · intro ys hl hy
      k_steps
      rename_i D5 h5 tk5 F5 N5 o5
      exact hret D5 ys h5 tk5 F5.keep (N5 _ (.head _)).1 (N5 _ (.head _)).2.2 (intsAre_of hl hy)
end

section
variable {prog p : Program} {lz : List Str} {w : World} {mean : ExcName → Option Value} {mg mb : Str → Option Value} {dp un : Nat} {gd : Option (List Code)} {base : Heap} {outer : List Env} {n : Nat}
  {Q E : Value → Shared → Prop} {s : Shared}
noncomputable def wTot (ns : List Int) : Int := ns.foldl (fun t c => 64 * t + c) 0
theorem wTot_bound {ks : List Int} (h : ∀ k ∈ ks, 0 ≤ k ∧ k < 64) (hl : ks.length ≤ 4) : 0 ≤ wTot ks ∧ wTot ks < 16777216 := tot_bound (by decide) h hl (by decide)
noncomputable def gOcts (ns : List Int) : List Int := (List.range (ns.length - 1)).map fun i => (wTot ns / 2 ^ (8 - 2 * ns.length)) / 2 ^ (8 * (ns.length - 2 - i)) % 256

theorem gOcts_in (ns : List Int) : KBa.In (gOcts ns) := by
  intro k hk
  obtain ⟨i, _, rfl⟩ := List.mem_map.mp hk
  lia
theorem gOcts_len (ns : List Int) : (gOcts ns).length = ns.length - 1 := by simp [gOcts]
theorem bitAnd_spare {x : Int} {k : Nat} (hk : k = 0 ∨ k = 2 ∨ k = 4) : Builtin.bitAnd x (1 * 2 ^ k - 1) = x % 2 ^ k := by
  rcases hk with rfl | rfl | rfl
  · rw [show ((1 : Int) * 2 ^ 0 - 1) = 0 from rfl, show ((2 : Int) ^ 0) = 1 from rfl, Int.emod_one]
    unfold Builtin.bitAnd
    cases h : decide (0 ≤ x) <;> simp
  · exact bitAnd_m2 x
  · exact bitAnd_m4 x

set_option maxHeartbeats 4000000 in
theorem ct_group_octets {l : Addr} {vs : List Value} {ns : List Int} (S : Sit p lz w mean mg mb dp un gd base outer (n + 1) s.heap)
  (hl : s.heap.IsList l vs.toArray) (hi : IntsAre vs ns) (hk1 : 2 ≤ ns.length) (hk3 : ns.length ≤ 4) (hv : ∀ k ∈ ns, 0 ≤ k ∧ k < 64)
  (hret : ∀ l' b tb u h' tk', s.heap.StaysIn h' → h'.get? l' = some { cls := .type "tuple", data := .seq [.bytes b tb, .int (wTot ns % 2 ^ (8 - 2 * ns.length)) u].toArray } → s.heap.get? l' = none → KBw.bInts b = gOcts ns → Q (.ref l') { s with heap := h', toks := tk' }) :
  wpAny (model prog w) (ar dp un gd outer) (call (.ref 81) [.ref l]) Q E s := by
  k_dflt refine' enterC (binds := [(Str.ofString "worth_row", .ref l)]) S ?k6 ?k7 ?k9 ?kB ?kD ?c2 ?c3 ?c4 ?_
  walk_at "enter_c"
  k_with "state" => first | (simp [wTot]; done) | (rename_i hInv; subst hInv; simp [wTot]; done) | (simp_all [wTot]; done)
  k_with "pyIter ref" => k_state (fun pre t => t = wTot pre) "total"
  k_steps
  rename_i hr4 F4 N4 k4
  have htot := wTot_bound hv hk3
  refine comp_range (n := ns.length - 1) rfl F4 N4 hr4 (small_down (by lia) (by lia) (by lia) (by lia)) (by rw [rangeSize_downNat]; congr 1; lia) (by rw [sizeLine_eq]; lia) ?_
  intro g
  refine comp_each (fun i y => ∃ t, y = .int ((wTot ns / 2 ^ (8 - 2 * ns.length)) / 2 ^ (8 * (ns.length - 2 - i)) % 256) t) ?_ trivial ?_
  · rintro i v I oI C oC D m₂ ys h tk E' hi ⟨_, t, rfl⟩ hC hx F5 N5 off ne
    k_steps
    have e1 : (6 * (ns.length : Int) - 8 * ((ns.length : Int) - 1)).toNat = 8 - 2 * ns.length := by lia
    have e2 : (8 * ((ns.length : Int) - 1 - 1 + (i : Int) * -1)).toNat = 8 * (ns.length - 2 - i) := by lia
    refine LCg.CompEnd.intro F5 N5 _ (fun _ hp => hp) off trivial ⟨rfl, _, congrArg (fun z => Value.int z _) ?_⟩
    rw [bitAnd_m8, e1, e2, kInv, Int.fdiv_eq_ediv_of_nonneg _ (Int.pow_nonneg (by lia)), Int.fdiv_eq_ediv_of_nonneg _ (Int.pow_nonneg (by lia))]
  · intro ys hl hy
    have hI : IntsAre ys (gOcts ns) := intsAre_of hl hy
    have hin := gOcts_in ns
    have hgl := gOcts_len ns
    k_steps
    (rename Fr _ _ _ _ => F9); (rename News _ _ _ _ => N9)
    have z := (N9 _ (.head _)).1
    have e1 : (6 * (ns.length : Int) - 8 * ((ns.length : Int) - 1)).toNat = 8 - 2 * ns.length := by lia
    rw [e1, kInv, bitAnd_spare (by lia)] at z
    exact hret _ _ _ _ _ _ F9.keep z (N9 _ (.head _)).2.2 (KBa.ints_make hin)
end

theorem keys3 : True := by
  k_with "call ref" => ((k_here; k_dflt (refine' ct_group_codes (Sit.use (by k_asm) (by k_asm) (by k_asm) (by k_asm) (by walk_at "sitn") (by walk_at "sitn")) (by kba_ints) (by kba_ints) (by assumption) (by walk_at "side") (by walk_at "side") ?_); intro l7 ys7 h7 tk7 k7 e7 f7 i7; (rename Fr _ _ _ _ => F6); (rename News _ _ _ _ => N6); (have F7 := fr_stays F6 k7); (have N7 := news_add F6 N6 k7 e7 f7); (have n7 := news_ne N6 f7); clear e7 f7; (try dsimp only)))
  k_with "InvEndN" => (((with_reducible show InvEndN _ _ _ _ _ _ _); refine halt ?_))
  k_with "KswEnd" => (((with_reducible show KswEnd _ _ _ _ _ _ _ _ _ _ _ _); refine halt ?_))
  trivial

section
variable {prog p : Program} {lz : List Str} {w : World} {mean : ExcName → Option Value} {mg mb : Str → Option Value} {dp un : Nat} {gd : Option (List Code)} {base : Heap} {outer : List Env} {n : Nat}
  {Q E : Value → Shared → Prop} {s : Shared}
noncomputable def pEnc (sg ks : List Int) : Nat → List Int
  | 0 => []
  | i + 1 => pEnc sg ks i ++ gCodes sg ((ks.drop (3 * i)).take 3)

theorem pEnc_len (sg ks : List Int) : ∀ i, (pEnc sg ks i).length ≤ 4 * i
  | 0 => Nat.le_refl _
  | i + 1 => by
    have := pEnc_len sg ks i
    simp only [pEnc, gCodes, List.length_append, List.length_map, List.length_range, List.length_take]
    lia
theorem getD_in' {sg : List Int} (h : KBa.In sg) (j : Nat) : 0 ≤ sg.getD j 0 ∧ sg.getD j 0 < 256 := KBw.getD_in h
theorem pEnc_in {sg : List Int} (h : KBa.In sg) (ks : List Int) : ∀ i, KBa.In (pEnc sg ks i)
  | 0 => fun _ h => nomatch h
  | i + 1 => fun k hk => by
    rcases List.mem_append.mp hk with hk | hk
    · exact pEnc_in h ks i k hk
    · obtain ⟨j, _, rfl⟩ := List.mem_map.mp hk
      exact getD_in' h _

set_option maxHeartbeats 4000000 in
theorem ct_part_encoded {b al : Array UInt8} {ks sg : List Int} {t t' : Tok} (S : Sit p lz w mean mg mb dp un gd base outer (n + 2) s.heap)
  (hb : KBw.bInts b = ks) (ha : KBw.bInts al = sg) (hsg : sg.length = 64) (hk : ks.length ≤ 100000)
  (hret : ∀ b' t h' tk', s.heap.StaysIn h' → KBw.bInts b' = pEnc sg ks ((ks.length + 2) / 3) → Q (.bytes b' t) { s with heap := h', toks := tk' }) :
  wpAny (model prog w) (ar dp un gd outer) (call (.ref 88) [.bytes b t, .bytes al t']) Q E s := by
  k_dflt refine' enterS (binds := [(Str.ofString "octets", .bytes b t), (Str.ofString "alphabet", .bytes al t')]) S ?k6 ?k7 ?k9 ?kB ?c2 ?c3 ?c4 ?c5 ?_
  walk_at "enter_s"
  k_with "pyIter ref" => fail "stop"
  k_steps
  rename_i l4 _ _ _ _ _ _ _ _ _ _ hr4 F4 N4 k4
  have hn : Builtin.Range.rangeSize 0 ((ks.length : Int)) 3 = (((ks.length + 2) / 3 : Nat) : Int) := by
    rw [rangeSize_pos (by lia) (by lia)]; lia
  refine kst_rangeS (σ := List Value × Nat) (n := (ks.length + 2) / 3) (fun c => [(l4, W.listOf c.1.toArray c.2)]) (fun _ => []) (fun _ => True) [] (fun pre c => IntsAre c.1 (pEnc sg ks pre.length)) ⟨[], 0⟩ rfl hr4 ?_ hn F4 N4 trivial (fun _ h => nomatch h) .nil ?_ ?_
  · exact small_step (by lia) (by lia) (by lia) (by lia)
  · rintro ⟨vs, k1⟩ pre k t u h tk own e hlt hoff _ hp F N
    dsimp only at hp F N
    k_steps
    (rename KBw.bInts (KBy.picked _ _ _) = _ => hb5)
    have hcl := clip_slice (ks := ks) (k := k) (c := 3) (i := 3 * pre.length) (m := 3) (by lia) rfl
    rw [hcl] at hb5
    have hc1 : 1 ≤ ((ks.drop (3 * pre.length)).take 3).length := by simp only [List.length_take, List.length_drop]; lia
    have hc3 : ((ks.drop (3 * pre.length)).take 3).length ≤ 3 := by simp only [List.length_take, List.length_drop]; lia
    have hgl : (gCodes sg ((ks.drop (3 * pre.length)).take 3)).length = ((ks.drop (3 * pre.length)).take 3).length + 1 := by simp [gCodes]
    have hvl : vs.length ≤ 400000 := by
      have := hp.length; have := pEnc_len sg ks pre.length; lia
    k_steps
    have hyl := i7.length
    refine kl_extend F7 N7 (.head _) (l := vs ++ ys7) (by simp) (by show ys7.length ≠ 0; lia) (upd2 (fun q => n7 _ (List.mem_append_left _ (.head _)) q.symm) (fun p hp => hoff p hp _ (.head _))) (fun q => by simp [Builtin.List.listTooLong, sizeLine_eq] at q; lia) (by rw [sizeLine_eq]; simp; lia) (by rw [sizeLine_eq]; simp; lia) ?_
    intro h8 F8 N8
    k_steps
    (with_unfolding_all refine' kst_end (vs ++ ys7, k1 + 1) ?hF ?hN ?hn ?ho ?ha ?hf ?hk ?hr ?hp); walk_at "inv_end"
    rw [List.length_append]; exact IntsAre.append hp i7
  · rintro ⟨vs, k⟩ u h tk pre e _ hp F N
    dsimp only at hp F N
    rw [e] at hp
    have hin := pEnc_in (sg := sg) (fun k hk => KBw.ints_in (ha ▸ hk)) ks ((ks.length + 2) / 3)
    have hpl := pEnc_len sg ks ((ks.length + 2) / 3)
    k_steps
    exact hret _ _ _ _ (Fr.keep (by assumption)) (KBa.ints_make hin)
end

theorem keys4 : True := by
  k_with "call ref" => ((k_here; k_dflt (refine' ct_is_half (Sit.use (by k_asm) (by k_asm) (by k_asm) (by k_asm) (by walk_at "sitn") (by walk_at "sitn")) ?_); intro h7 tk7 k7; (rename Fr _ _ _ _ => F6); (rename News _ _ _ _ => N6); (have F7 := fr_stays F6 k7); (have N7 := news_stays N6 k7); (try dsimp only)))
  k_with "call ref" => ((k_here; k_dflt (refine' ct_is_plain (Sit.use (by k_asm) (by k_asm) (by k_asm) (by k_asm) (by walk_at "sitn") (by walk_at "sitn")) ?_); intro h7 tk7 k7; (rename Fr _ _ _ _ => F6); (rename News _ _ _ _ => N6); (have F7 := fr_stays F6 k7); (have N7 := news_stays N6 k7); (try dsimp only)))
  trivial

section
variable {prog p : Program} {lz : List Str} {w : World} {mean : ExcName → Option Value} {mg mb : Str → Option Value} {dp un : Nat} {gd : Option (List Code)} {base : Heap} {outer : List Env} {n : Nat}
  {Q : Value → Shared → Prop} {s : Shared}
noncomputable def hiU (c : Int) : Int := 55296 + (c - 65536) / 1024
noncomputable def loU (c : Int) : Int := 56320 + (c - 65536) % 1024
noncomputable def u16one (c : Int) : List Int := if 65535 < c then [hiU c / 256, hiU c % 256, loU c / 256, loU c % 256] else [c / 256, c % 256]
noncomputable def u16 (cs : List Nat) : List Int := cs.flatMap fun (c : Nat) => u16one (c : Int)

theorem u16_snoc {cs : List Nat} {b i : Nat} (h : b + i < cs.length) : u16 ((cs.drop b).take (i + 1)) = u16 ((cs.drop b).take i) ++ u16one (cs[b + i] : Nat) := by
  have e : (cs.drop b)[i]? = some cs[b + i] := by rw [List.getElem?_drop]; exact List.getElem?_eq_getElem h
  rw [List.take_add_one, e]
  simp [u16]
theorem u16one_len (c : Int) : (u16one c).length ≤ 4 := by unfold u16one; split <;> simp
theorem u16_len : ∀ cs : List Nat, (u16 cs).length ≤ 4 * cs.length
  | [] => by simp [u16]
  | c :: cs => by
    have := u16_len cs; have := u16one_len c
    simp only [u16, List.flatMap_cons, List.length_append, List.length_cons] at *
    lia
theorem byte_div {x : Int} (h : 0 ≤ x ∧ x < 65536) : (0 ≤ x / 256 ∧ x / 256 < 256) ∧ (0 ≤ x % 256 ∧ x % 256 < 256) :=
  ⟨⟨Int.ediv_nonneg h.1 (by decide), Int.ediv_lt_of_lt_mul (by decide) h.2⟩, Int.emod_nonneg _ (by decide), Int.emod_lt_of_pos _ (by decide)⟩
theorem u16one_in {c : Nat} (h : c < 1114112) : KBa.In (u16one c) := by
  intro k hk
  unfold u16one at hk
  split at hk
  · rename_i h1
    have b1 := byte_div (x := hiU c) (by unfold hiU; lia)
    have b2 := byte_div (x := loU c) (by unfold loU; lia)
    simp only [List.mem_cons, List.not_mem_nil, or_false] at hk
    rcases hk with rfl | rfl | rfl | rfl
    · exact b1.1
    · exact b1.2
    · exact b2.1
    · exact b2.2
  · rename_i h1
    have b1 := byte_div (x := (c : Int)) (by lia)
    simp only [List.mem_cons, List.not_mem_nil, or_false] at hk
    rcases hk with rfl | rfl
    · exact b1.1
    · exact b1.2
theorem u16_in {cs : List Nat} (h : ∀ c ∈ cs, c < 1114112) : KBa.In (u16 cs) := by
  intro k hk
  simp only [u16, List.mem_flatMap] at hk
  obtain ⟨c, hc, hk⟩ := hk
  exact u16one_in (h c hc) k hk

set_option maxHeartbeats 4000000 in
theorem ct_utf16 {cs : List Nat} {t t1 t2 : Tok} {b e : Nat} (S : Sit p lz w mean mg mb dp un gd base outer (n + 2) s.heap)
  (hbe : b ≤ e) (he : e ≤ cs.length) (hv : ∀ c ∈ cs, c < 1114112 ∧ ¬ (55296 ≤ c ∧ c ≤ 57343)) (hk : cs.length ≤ 100000)
  (hret : ∀ b' t h' tk', s.heap.StaysIn h' → KBw.bInts b' = u16 ((cs.drop b).take (e - b)) → Q (.bytes b' t) { s with heap := h', toks := tk' }) :
  wpOn (model prog w) (ar dp un gd outer) (call (.ref 123) [.str ⟨cs.toArray⟩ t, .int b t1, .int e t2]) Q noE s := by
  k_dflt refine' on_enterS (binds := [(Str.ofString "text", .str ⟨cs.toArray⟩ t), (Str.ofString "begin", .int b t1), (Str.ofString "end", .int e t2)]) S ?k6 ?k7 ?k9 ?kB ?c2 ?c3 ?c4 ?c5 ?_
  walk_at "enter_s"
  k_with "pyIter ref" => fail "stop"
  k_steps
  rename_i a8 h8 n8 h9 F9 N9 h10 tk10 t10 u10 v10 hr10 F10 N10 k10
  refine on_kst_range (σ := List Int) (n := e - b) (fun c => [(a8, baObj (byteArr c))]) (fun _ => []) (fun _ => True) [Str.ofString "code", Str.ofString "high"] (fun pre c => c = u16 ((cs.drop b).take pre.length)) [] rfl hr10 ?_ ?_ F10 N10 trivial (fun _ h => nomatch h) rfl ?_ ?_
  · exact small_ab (by lia) (by lia) (by lia)
  · rw [rangeSize_ab (by lia)]; lia
  · intro c pre k t u h tk own hke hlt hoff _ hp F N
    (try dsimp only at hp F N)
    have hl := str_len cs
    have hin : b + pre.length < cs.length := by lia
    have hc := char_at (k := k) (i := b + pre.length) (by lia) hin
    have hc' : (Txt.item { cps := cs.toArray } k).cps.getD 0 0 = cs[b + pre.length] := hc
    have hc0 := hv _ (List.getElem_mem hin)
    have hsn := u16_snoc hin
    generalize cs[b + pre.length] = c0 at hc hc' hc0 hsn
    have hcl : c.length ≤ 400000 := by
      have := u16_len (List.take pre.length (List.drop b cs))
      simp only [List.length_take, List.length_drop] at this
      rw [hp]; lia
    k_steps
    · generalize (Txt.item { cps := cs.toArray } k).cps.getD 0 0 = x at *
      subst hc'
      (with_unfolding_all refine' kst_end (c ++ [(55296 + ((x : Int) - 65536).fdiv (2 ^ Int.toNat 10)).fdiv (2 ^ Int.toNat 8)] ++ [Builtin.bitAnd (55296 + ((x : Int) - 65536).fdiv (2 ^ Int.toNat 10)) 255] ++ [(56320 + Builtin.bitAnd ((x : Int) - 65536) 1023).fdiv (2 ^ Int.toNat 8)] ++ [Builtin.bitAnd (56320 + Builtin.bitAnd ((x : Int) - 65536) 1023) 255]) ?hF ?hN ?hn ?ho ?ha ?hf ?hk ?hr ?hp); walk_at "inv_end"
      rw [List.length_append, List.length_singleton, hsn, hp]
      simp only [u16one, hiU, loU, shr8, shr10, bitAnd_m8, bitAnd_m10, List.append_assoc, List.cons_append, List.nil_append, if_pos (show (65535 : Int) < (x : Int) by lia)]
    · generalize (Txt.item { cps := cs.toArray } k).cps.getD 0 0 = x at *
      subst hc'
      (with_unfolding_all refine' kst_end (c ++ [(x : Int).fdiv (2 ^ Int.toNat 8)] ++ [Builtin.bitAnd (x : Int) 255]) ?hF2 ?hN2 ?hn2 ?ho2 ?ha2 ?hf2 ?hk2 ?hr2 ?hp2); walk_at "inv_end2"
      rw [List.length_append, List.length_singleton, hsn, hp]
      simp only [u16one, shr8, bitAnd_m8, List.append_assoc, List.cons_append, List.nil_append, if_neg (show ¬ (65535 : Int) < (x : Int) by lia)]
  · intro c u h tk pre hpre _ hp F N
    (try dsimp only at hp F N)
    have hcl : c.length ≤ 400000 := by
      have := u16_len (List.take pre.length (List.drop b cs))
      simp only [List.length_take, List.length_drop] at this
      rw [hp]; lia
    rw [hpre] at hp
    k_steps
    exact hret _ _ _ _ (Fr.keep (by assumption)) (by rw [hp]; exact KBa.ints_make (u16_in fun x hx => (hv x (List.mem_of_mem_drop (List.mem_of_mem_take hx))).1))
end

section
variable {prog p : Program} {w : World} {A : Around} {s : Shared} {env : Env} {h₀ : Heap} {L : Addr} {Q : Flow → Shared → Prop}
/-- a call of a def of the program, its arguments ready -/
noncomputable def AtCall (prog : Program) (w : World) (A : Around) (h₀ : Heap) (a : Addr) (vs : List Value) (kw : List (Str × Value)) (Q : Value → Shared → Prop) (s₁ : Shared) : Prop :=
  (∃ L m, Fr h₀ L s₁.heap m) ∧ wpOn (model prog w) A (call (.ref a) vs kw) Q noE s₁
theorem AtCall.mk {a : Addr} {vs : List Value} {kw : List (Str × Value)} {Q : Value → Shared → Prop} {m : Str → Option Value} (F : Fr h₀ L s.heap m) (h : wpOn (model prog w) A (call (.ref a) vs kw) Q noE s) : AtCall prog w A h₀ a vs kw Q s := ⟨⟨_, _, F⟩, h⟩
theorem on_callWith_k {pos : Pos} {a : Addr} {oc : Value} {od : Option Addr} {fd : FuncData} {osl : Array (Option Value)} {first : List Value} {args : List (Bool × Sem Value)} {Q : Value → Shared → Prop}
    (ho : (hd.heap_39 w.params).lookup a = some ⟨oc, od, .func fd, osl⟩) (X : (hd.heap_39 w.params).In h₀) (hplain : args.any (·.1) = false)
    (h : wpOn (model prog w) A (evalArgs (.ref a) true args []) (fun x s₁ => AtCall prog w A h₀ a (first ++ x.pos) x.kw Q s₁) noE s) : wpOn (model prog w) A (callWith pos (.ref a) first args []) Q noE s := by
  refine on_callWith_f (o := ⟨oc, od, .func fd, osl⟩) rfl hplain (on_mono h (fun x s₁ h₁ => ⟨?_, h₁.2⟩) fun _ _ x => x)
  obtain ⟨L, m, F⟩ := h₁.1
  exact F.keep _ _ (X _ _ ho)

theorem on_ksw_while {σ : Type} {test : Expr} {body : List Stmt} {pos : Pos} {m₀ : Str → Option Value} (Led : σ → List (Addr × Obj)) (ps : σ → List (Str × Value)) (Facts : σ → Prop) (stored : List Str) (P : σ → Prop) (μ : σ → Nat) (c₀ : σ)
    (F : Fr h₀ L s.heap m₀) (N : News h₀ L s.heap (Led c₀)) (hf : Facts c₀) (hk : ∀ p ∈ ps c₀, m₀ p.1 = some p.2) (hp : P c₀)
    (turn : ∀ (c : σ) (u : Str → Option Value) h tk, Facts c → P c → Fr h₀ L h (kstB (fun z => if stored.contains z then u z else m₀ z) (ps c)) → News h₀ L h (Led c) →
      wpAny (model prog w) A (isTrue test env (eval test env)) (fun b s₂ =>
        if b = true then wpOn (model prog w) A (execs body env) (KswPost h₀ L s Led ps Facts stored m₀ P μ Q c) noE s₂ else Q .next s₂) noE { s with heap := h, toks := tk }) :
    wpOn (model prog w) A (exec (.While test body [] pos) env) Q noE s := by
  refine on_While (fun n s' => ∃ (c : σ) (m : Str → Option Value) (h : Heap) (tk : Nat), s' = { s with heap := h, toks := tk } ∧ μ c = n ∧ Facts c ∧ (∀ p ∈ ps c, m p.1 = some p.2) ∧ (∀ z, (∀ p ∈ ps c, z ≠ p.1) → stored.contains z = false → m z = m₀ z) ∧ P c ∧ Fr h₀ L h m ∧ News h₀ L h (Led c)) ?_ (μ c₀) ⟨c₀, m₀, s.heap, s.toks, rfl, rfl, hf, hk, fun _ _ _ => rfl, hp, F, N⟩
  rintro n s' ⟨c, m₁, h, tk, rfl, hsz, hf', h1, h2, hp', F₁, N₁⟩
  refine wpAny_mono (turn c m₁ h tk hf' hp' (ksw_fr h1 h2 F₁) N₁) (fun b s₂ p => ?_) fun _ _ x => x
  cases b with
  | false => simpa using p
  | true =>
    simp only [if_true] at p ⊢
    refine on_mono p (fun f s₃ q => ?_) fun _ _ x => x
    cases f with
    | ret v => exact q
    | brk => exact q
    | next =>
      obtain ⟨c', h', tk', m', news', rfl, F', N', hn, hf9, hk9, hr9, hp9, hm9⟩ := q
      exact ⟨μ c', hsz ▸ hm9, c', m', h', tk', rfl, rfl, hf9, hk9, hr9, hp9, F', fun p hp => N' p (hn p hp)⟩
    | cont =>
      obtain ⟨c', h', tk', m', news', rfl, F', N', hn, hf9, hk9, hr9, hp9, hm9⟩ := q
      exact ⟨μ c', hsz ▸ hm9, c', m', h', tk', rfl, rfl, hf9, hk9, hr9, hp9, F', fun p hp => N' p (hn p hp)⟩
end
noncomputable def sgn : List Int := [65, 66, 67, 68, 69, 70, 71, 72, 73, 74, 75, 76, 77, 78, 79, 80, 81, 82, 83, 84, 85, 86, 87, 88, 89, 90, 97, 98, 99, 100, 101, 102, 103, 104, 105, 106, 107, 108, 109, 110, 111, 112, 113, 114, 115, 116, 117, 118, 119, 120, 121, 122, 48, 49, 50, 51, 52, 53, 54, 55, 56, 57, 43, 44]

section
variable {prog p : Program} {lz : List Str} {w : World} {mean : ExcName → Option Value} {mg mb : Str → Option Value} {dp un : Nat} {gd : Option (List Code)} {base : Heap} {outer : List Env} {n : Nat}
  {Q E : Value → Shared → Prop} {s : Shared}
noncomputable def plainN (c : Nat) : Bool := decide (32 ≤ (c : Int)) && decide ((c : Int) ≤ 126)
noncomputable def runEnd (cs : List Nat) (b : Nat) : Nat := b + ((cs.drop b).takeWhile fun c => !plainN c).length
theorem runEnd_stop {cs : List Nat} {b : Nat} (h : b < cs.length) (hp : plainN cs[b] = true) : runEnd cs b = b := by
  unfold runEnd
  rw [List.drop_eq_getElem_cons h, List.takeWhile_cons, hp]; simp
theorem runEnd_step {cs : List Nat} {b : Nat} (h : b < cs.length) (hp : plainN cs[b] = false) : runEnd cs b = runEnd cs (b + 1) := by
  unfold runEnd
  rw [List.drop_eq_getElem_cons h, List.takeWhile_cons, hp]; simp; lia
theorem runEnd_end {cs : List Nat} {b : Nat} (h : cs.length ≤ b) : runEnd cs b = b := by
  unfold runEnd
  rw [List.drop_of_length_le h]; simp
theorem runEnd_le {cs : List Nat} {b : Nat} (h : b ≤ cs.length) : b ≤ runEnd cs b ∧ runEnd cs b ≤ cs.length := by
  unfold runEnd
  have := (List.takeWhile_sublist (l := cs.drop b) fun c => !plainN c).length_le
  simp only [List.length_drop] at this
  lia

set_option maxHeartbeats 4000000 in
theorem ct_run_behind {cs : List Nat} {t t1 : Tok} {b : Nat} (S : Sit p lz w mean mg mb dp un gd base outer (n + 2) s.heap)
  (hb : b ≤ cs.length) (hk : cs.length ≤ 100000)
  (hret : ∀ t h' tk', s.heap.StaysIn h' → Q (.int (runEnd cs b : Nat) t) { s with heap := h', toks := tk' }) :
  wpAny (model prog w) (ar dp un gd outer) (call (.ref 130) [.str ⟨cs.toArray⟩ t, .int b t1]) Q E s := by
  k_dflt refine' enterS (binds := [(Str.ofString "text", .str ⟨cs.toArray⟩ t), (Str.ofString "begin", .int b t1)]) S ?k6 ?k7 ?k9 ?kB ?c2 ?c3 ?c4 ?c5 ?_
  walk_at "enter_s"

  k_steps
  rename_i h6 F6 N6
  refine unhalt (ksw_while (σ := Nat × Tok) (fun _ => []) (fun c => [(Str.ofString "end", .int c.1 c.2)]) (fun _ => True) [] (fun c => c.1 ≤ cs.length ∧ runEnd cs c.1 = runEnd cs b) (fun c => cs.length - c.1) (b, t1) F6 N6 trivial ?_ ⟨hb, rfl⟩ ?_)
  · intro p hp; rw [List.mem_singleton.mp hp]; rfl
  · rintro ⟨i, ti⟩ u h tk _ hp F N
    dsimp only at hp F N
    have hl := str_len cs
    rcases Nat.lt_or_ge i cs.length with hi | hi
    · have hc := char_at (k := i) (i := i) rfl hi
      have hc' : (Txt.item { cps := cs.toArray } i).cps.getD 0 0 = cs[i] := hc
      have hst := runEnd_stop hi
      have hsn := runEnd_step hi
      generalize cs[i] = c0 at hc hc' hst hsn
      k_steps
      · have e := hp.2.symm.trans (hst (by rw [← hc']; assumption))
        rw [e] at hret
        exact hret _ _ _ (Fr.keep (by assumption))
      · (with_unfolding_all refine' ksw_end (i + 1, _) ?wF ?wN ?wn ?wf ?wk ?wr ?wp ?wm); walk_at "while_end"
        · exact ⟨hi, (hsn (by rw [← hc']; assumption)).symm.trans hp.2⟩
        · exact Nat.sub_lt_sub_left hi (Nat.lt_succ_self i)
    · k_steps
      have e := hp.2.symm.trans (runEnd_end hi)
      rw [e] at hret
      exact hret _ _ _ (Fr.keep (by assumption))
end

theorem keys5 : True := by
  k_with "call ref" => ((k_here; k_dflt (refine' ct_run_behind (Sit.use (by k_asm) (by k_asm) (by k_asm) (by k_asm) (by walk_at "sitn") (by walk_at "sitn")) (by walk_at "side") (by walk_at "side") ?_); intro t7 h7 tk7 k7; (rename Fr _ _ _ _ => F6); (rename News _ _ _ _ => N6); (have F7 := fr_stays F6 k7); (have N7 := news_stays N6 k7); (try dsimp only)))
  k_with "call ref" => ((k_here; k_dflt (refine' ct_part_encoded (sg := sgn) (Sit.use (by k_asm) (by k_asm) (by k_asm) (by k_asm) (by walk_at "sitn") (by walk_at "sitn")) (by kba_ints) (by first | rfl | decide +kernel) (by rfl) (by walk_at "side") ?_); intro b7 t7 h7 tk7 k7 i7; (rename Fr _ _ _ _ => F6); (rename News _ _ _ _ => N6); (have F7 := fr_stays F6 k7); (have N7 := news_stays N6 k7); (try dsimp only)))
  k_with "AtCall" => ((k_here; k_dflt (refine' AtCall.mk (by k_asm) ?_)))
  k_with "wpOn" => ((k_here; first
  | ((with_reducible show wpOn _ _ (exec (Stmt.While _ _ _ _) _) _ _ _); refine halt ?_)
  | ((with_reducible show wpOn _ _ (execs (Stmt.While _ _ _ _ :: _) _) _ _ _); refine on_execs_cons ?_)
  | ((with_reducible show wpOn _ _ (eval (Expr.Call (Expr.Name (Str.ofString "part_encoded") _) _ _ _) _) _ _ _); k_dflt refine on_Call (f := .none) ?_)
  | ((with_reducible show wpOn _ _ (eval (Expr.Call (Expr.Name (Str.ofString "utf16_octets") _) _ _ _) _) _ _ _); k_dflt refine on_Call (f := .none) ?_)
  | ((with_reducible show wpOn _ _ (callWith _ (Value.ref _) _ _ _) _ _ _); k_dflt (refine' on_callWith_k (by k_is) (by k_asm) rfl (on_evalArgs (on_spliced_cons ?_))))
  | ((with_reducible show wpOn _ _ (spliced (List.map _ _)) _ _ _); first | refine on_spliced_nil ?_ | refine on_spliced_cons ?_; (try dsimp only))
  | ((with_reducible show wpOn _ _ (call (Value.ref 88) _) _ _ _); refine on_any ?_)
  | ((with_reducible show wpOn _ _ (call (Value.ref 123) _) _ _ _); (k_dflt (refine' ct_utf16 (Sit.use (by k_asm) (by k_asm) (by k_asm) (by k_asm) (by walk_at "sitn") (by walk_at "sitn")) (by walk_at "side") (by walk_at "side") (by assumption) (by walk_at "side") ?_); intro b7 t7 h7 tk7 k7 i7; (rename Fr _ _ _ _ => F6); (rename News _ _ _ _ => N6); (have F7 := fr_stays F6 k7); (have N7 := news_stays N6 k7); (try dsimp only)))))
  trivial

section
variable {prog p : Program} {lz : List Str} {w : World} {mean : ExcName → Option Value} {mg mb : Str → Option Value} {dp un : Nat} {gd : Option (List Code)} {base : Heap} {outer : List Env} {n : Nat}
  {Q : Value → Shared → Prop} {s : Shared}
noncomputable def encRun (run : List Nat) : List Int := [38] ++ pEnc sgn (u16 run) (((u16 run).length + 2) / 3) ++ [45]
noncomputable def encS : Nat → List Nat → List Int
  | _, [] => []
  | 0, c :: cs => if plainN c then (if c = 38 then [38, 45] else [(c : Int)]) ++ encS 0 cs else encRun ((c :: cs).takeWhile fun c => !plainN c) ++ encS (runEnd (c :: cs) 0 - 1) cs
  | k + 1, _ :: cs => encS k cs
noncomputable def enc (cs : List Nat) : List Int := encS 0 cs
theorem encS_drop : ∀ (cs : List Nat) (k : Nat), encS k cs = enc (cs.drop k)
  | [], 0 => rfl
  | [], _ + 1 => rfl
  | _ :: _, 0 => rfl
  | _ :: cs, k + 1 => encS_drop cs k
theorem enc_nil : enc [] = [] := rfl
theorem enc_cons (c : Nat) (cs : List Nat) : enc (c :: cs) = if plainN c then (if c = 38 then [38, 45] else [(c : Int)]) ++ enc cs else encRun ((c :: cs).takeWhile fun c => !plainN c) ++ enc ((c :: cs).drop (runEnd (c :: cs) 0)) := by
  show (if plainN c = true then _ ++ encS 0 cs else _ ++ encS (runEnd (c :: cs) 0 - 1) cs) = _
  by_cases h : plainN c = true
  · rw [if_pos h, if_pos h]; rfl
  · have h1 : 1 ≤ runEnd (c :: cs) 0 := by
      rw [runEnd_step (Nat.zero_lt_succ _) (by simpa using h)]; exact (runEnd_le (cs := c :: cs) (b := 0 + 1) (Nat.succ_le_succ (Nat.zero_le _))).1
    obtain ⟨k, hk⟩ : ∃ k, runEnd (c :: cs) 0 = k + 1 := ⟨runEnd (c :: cs) 0 - 1, (Nat.sub_add_cancel h1).symm⟩
    rw [if_neg h, if_neg h, encS_drop, hk]; rfl
theorem enc_plain {cs : List Nat} {i : Nat} (h : i < cs.length) (hp : plainN cs[i] = true) : enc (cs.drop i) = (if cs[i] = 38 then [38, 45] else [(cs[i] : Int)]) ++ enc (cs.drop (i + 1)) := by
  rw [List.drop_eq_getElem_cons h, enc_cons, if_pos hp]
theorem enc_run {cs : List Nat} {i : Nat} (h : i < cs.length) (hp : plainN cs[i] = false) : enc (cs.drop i) = encRun ((cs.drop i).take (runEnd cs i - i)) ++ enc (cs.drop (runEnd cs i)) := by
  have e1 : (cs.drop i).takeWhile (fun c => !plainN c) = (cs.drop i).take (runEnd cs i - i) := by
    have : (cs.drop i).takeWhile (fun c => !plainN c) = (cs.drop i).take ((cs.drop i).takeWhile (fun c => !plainN c)).length := (List.prefix_iff_eq_take.mp (List.takeWhile_prefix _))
    rw [this]; unfold runEnd
    congr 1
    simp
  have e2 : runEnd (cs.drop i) 0 = runEnd cs i - i := by unfold runEnd; simp
  have e3 := runEnd_le (cs := cs) (b := i) (Nat.le_of_lt h)
  rw [← e1]
  have e4 : cs.drop (runEnd cs i) = (cs.drop i).drop (runEnd (cs.drop i) 0) := by rw [e2, List.drop_drop]; congr 1; lia
  rw [e4]
  rw [List.drop_eq_getElem_cons h, enc_cons, if_neg (by simp [hp])]
theorem enc_end {cs : List Nat} {i : Nat} (h : cs.length ≤ i) : enc (cs.drop i) = [] := by
  rw [List.drop_of_length_le h]; rfl
theorem encRun_len (run : List Nat) (h : 1 ≤ run.length) : (encRun run).length ≤ 10 * run.length := by
  have h1 := pEnc_len sgn (u16 run) (((u16 run).length + 2) / 3)
  have h2 := u16_len run
  simp only [encRun, List.length_append, List.length_cons, List.length_nil]
  lia
theorem enc_len (cs : List Nat) : (enc cs).length ≤ 10 * cs.length := by
  suffices h : ∀ k, ∀ cs : List Nat, cs.length ≤ k → (enc cs).length ≤ 10 * cs.length from h _ _ (Nat.le_refl _)
  intro k
  induction k with
  | zero => intro cs h; have : cs = [] := List.length_eq_zero_iff.mp (by lia); subst this; simp [enc_nil]
  | succ k ih =>
    intro cs h
    rcases Nat.eq_zero_or_pos cs.length with h0 | h0
    · have : cs = [] := List.length_eq_zero_iff.mp h0; subst this; simp [enc_nil]
    · cases hp : plainN cs[0] with
      | true =>
        have e := enc_plain h0 hp
        rw [List.drop_zero] at e
        have := ih (cs.drop (0 + 1)) (by simp; lia)
        rw [e, List.length_append]
        simp only [List.length_drop] at this
        split <;> simp only [List.length_cons, List.length_nil] <;> lia
      | false =>
        have e := enc_run h0 hp
        rw [List.drop_zero] at e
        have h1 : 1 ≤ runEnd cs 0 ∧ runEnd cs 0 ≤ cs.length := by
          have := runEnd_le (cs := cs) (b := 1) h0
          rw [runEnd_step h0 hp]; lia
        have := ih (cs.drop (runEnd cs 0)) (by simp; lia)
        have h2 := encRun_len (cs.take (runEnd cs 0 - 0)) (by simp; lia)
        rw [e, List.length_append]
        simp only [List.length_drop, List.length_take] at this h2
        lia

theorem encRun_in (run : List Nat) : KBa.In (encRun run) := by
  intro k hk
  simp only [encRun, List.mem_append, List.mem_singleton] at hk
  rcases hk with (rfl | hk) | rfl
  · lia
  · exact pEnc_in (sg := sgn) (show ∀ k ∈ sgn, 0 ≤ k ∧ k < 256 by decide) _ _ k hk
  · lia
theorem enc_in (cs : List Nat) : KBa.In (enc cs) := by
  suffices h : ∀ k, ∀ cs : List Nat, cs.length ≤ k → KBa.In (enc cs) from h _ _ (Nat.le_refl _)
  intro k
  induction k with
  | zero => intro cs h; have : cs = [] := List.length_eq_zero_iff.mp (by lia); subst this; rw [enc_nil]; exact fun _ h => nomatch h
  | succ k ih =>
    intro cs h
    rcases Nat.eq_zero_or_pos cs.length with h0 | h0
    · have : cs = [] := List.length_eq_zero_iff.mp h0; subst this; rw [enc_nil]; exact fun _ h => nomatch h
    · cases hp : plainN cs[0] with
      | true =>
        have e := enc_plain h0 hp
        rw [List.drop_zero] at e
        have := ih (cs.drop (0 + 1)) (by simp; lia)
        rw [e]
        intro x hx
        rcases List.mem_append.mp hx with hx | hx
        · unfold plainN at hp; simp at hp
          split at hx <;> simp at hx <;> lia
        · exact this x hx
      | false =>
        have e := enc_run h0 hp
        rw [List.drop_zero] at e
        have h1 : 1 ≤ runEnd cs 0 ∧ runEnd cs 0 ≤ cs.length := by
          have := runEnd_le (cs := cs) (b := 0 + 1) h0
          rw [runEnd_step h0 hp]; lia
        have := ih (cs.drop (runEnd cs 0)) (by simp; lia)
        rw [e]
        intro x hx
        rcases List.mem_append.mp hx with hx | hx
        · exact encRun_in _ x hx
        · exact this x hx

set_option maxHeartbeats 4000000 in
theorem ct_seven {cs : List Nat} {t : Tok} (S : Sit p lz w mean mg mb dp un gd base outer (n + 4) s.heap)
  (hv : ∀ c ∈ cs, c < 1114112 ∧ ¬ (55296 ≤ c ∧ c ≤ 57343)) (hk : cs.length ≤ 20000)
  (hret : ∀ b' t h' tk', s.heap.StaysIn h' → KBw.bInts b' = enc cs → Q (.bytes b' t) { s with heap := h', toks := tk' }) :
  wpOn (model prog w) (ar dp un gd outer) (call (.ref 137) [.str ⟨cs.toArray⟩ t]) Q noE s := by
  k_dflt refine' on_enterS (binds := [(Str.ofString "text", .str ⟨cs.toArray⟩ t)]) S ?k6 ?k7 ?k9 ?kB ?c2 ?c3 ?c4 ?c5 ?_
  walk_at "enter_s"
  k_steps
  rename_i a8 _ n8 _ h9 F9 N9
  refine' unhalt (on_ksw_while (σ := List Int × Nat × Tok) (fun c => [(a8, baObj (byteArr c.1))]) (fun c => [(Str.ofString "at", .int c.2.1 c.2.2)]) (fun _ => True) [Str.ofString "code", Str.ofString "end"] (fun c => c.2.1 ≤ cs.length ∧ c.1 ++ enc (cs.drop c.2.1) = enc cs) (fun c => cs.length - c.2.1) ([], 0, ?tk0) F9 N9 trivial ?hk0 ⟨Nat.zero_le _, by simp⟩ ?_)
  case hk0 => intro p hp; cases List.mem_singleton.mp hp; rfl
  · rintro ⟨out, i, ti⟩ u h tk _ hp F N
    dsimp only at hp F N
    have hl := str_len cs
    have hel := enc_len cs
    have hol : out.length + (enc (cs.drop i)).length ≤ 200000 := by rw [← hp.2, List.length_append] at hel; lia
    rcases Nat.lt_or_ge i cs.length with hi | hi
    · have hc := char_at (k := i) (i := i) rfl hi
      have hc' : (Txt.item { cps := cs.toArray } i).cps.getD 0 0 = cs[i] := hc
      have hst := enc_plain hi
      have hsn := enc_run hi
      have hre := runEnd_step hi
      have hrl := runEnd_le (cs := cs) (b := i) hp.1
      have hrl1 := runEnd_le (cs := cs) (b := i + 1) hi
      have hel1 := enc_len (cs.drop i)
      have hul : (u16 ((cs.drop i).take (runEnd cs i - i))).length ≤ 80000 := by
        have := u16_len ((cs.drop i).take (runEnd cs i - i)); simp only [List.length_take, List.length_drop] at this; lia
      have hpe := pEnc_len sgn (u16 ((cs.drop i).take (runEnd cs i - i))) (((u16 ((cs.drop i).take (runEnd cs i - i))).length + 2) / 3)
      generalize cs[i] = c0 at hc hc' hst hsn hre
      have hvt : ∀ c ∈ cs, c < 1114112 ∧ ¬ (55296 ≤ c ∧ c ≤ 57343) := hv
      rcases Bool.eq_false_or_eq_true (plainN c0) with hq | hq
      · have hq' : 32 ≤ c0 ∧ c0 ≤ 126 := by unfold plainN at hq; simp at hq; lia
        k_steps
        · generalize (Txt.item { cps := cs.toArray } i).cps.getD 0 0 = x at *
          subst hc'
          (with_unfolding_all refine' ksw_end (out ++ [(x : Int)] ++ [45], i + 1, _) ?wF ?wN ?wn ?wf ?wk ?wr ?wp ?wm); walk_at "while_end"
          · refine ⟨hi, ?_⟩
            rw [← hp.2, hst hq, if_pos (by lia)]
            have : (x : Int) = 38 := by assumption
            simp [this]
          · exact Nat.sub_lt_sub_left hi (Nat.lt_succ_self i)
        · generalize (Txt.item { cps := cs.toArray } i).cps.getD 0 0 = x at *
          subst hc'
          (with_unfolding_all refine' ksw_end (out ++ [(x : Int)], i + 1, _) ?wF2 ?wN2 ?wn2 ?wf2 ?wk2 ?wr2 ?wp2 ?wm2); walk_at "while_end2"
          · refine ⟨hi, ?_⟩
            rw [← hp.2, hst hq, if_neg (by lia)]
            simp
          · exact Nat.sub_lt_sub_left hi (Nat.lt_succ_self i)
      · have hq' : ¬ (32 ≤ c0 ∧ c0 ≤ 126) := by unfold plainN at hq; simp at hq; lia
        k_steps
        (with_unfolding_all refine' ksw_end (out ++ [38] ++ pEnc sgn (u16 ((cs.drop i).take (runEnd cs i - i))) (((u16 ((cs.drop i).take (runEnd cs i - i))).length + 2) / 3) ++ [45], runEnd cs i, _) ?wF3 ?wN3 ?wn3 ?wf3 ?wk3 ?wr3 ?wp3 ?wm3); walk_at "while_end3"
        · refine ⟨hrl.2, ?_⟩
          rw [← hp.2, hsn hq]
          simp [encRun]
        · exact Nat.sub_lt_sub_left hi (by rw [hre hq]; exact hrl1.1)
    · rw [enc_end hi, List.append_nil] at hp
      k_steps
      exact hret _ _ _ _ (Fr.keep (by assumption)) (by rw [hp.2]; exact KBa.ints_make (enc_in cs))
end

section
variable {prog p : Program} {lz : List Str} {w : World} {mean : ExcName → Option Value} {mg mb : Str → Option Value} {dp un : Nat} {gd : Option (List Code)} {base : Heap} {outer : List Env} {n : Nat}
  {Q E : Value → Shared → Prop} {s : Shared}
noncomputable def psOf (us : List Tok) : List (Int × Value) := us.zipIdx.map fun p => (sgn.getD p.2 0, Value.int (p.2 : Nat) p.1)
theorem psOf_get {us : List Tok} {j : Nat} {u : Tok} (h : us[j]? = some u) : (psOf us)[j]? = some (sgn.getD j 0, Value.int (j : Nat) u) := by
  simp [psOf, List.getElem?_zipIdx, h]
theorem psOf_len (us : List Tok) : (psOf us).length = us.length := by simp [psOf]
theorem psOf_keys (us : List Tok) : (psOf us).map (·.1) = (List.range us.length).map fun j => sgn.getD j 0 := by
  refine List.ext_getElem (by simp [psOf]) fun j h1 h2 => ?_
  simp [psOf]
theorem psOf_nodup {us : List Tok} (h : us.length = 64) : ((psOf us).map (·.1)).Nodup := by
  rw [psOf_keys, h]; decide +kernel

noncomputable def WJ (i : Nat) (ys : List Value) (nw : List (Addr × Obj)) : Prop :=
  ys.length = i ∧ ∃ us : List Tok, us.length = i ∧ ∀ (j : Nat) (u : Tok), us[j]? = some u → ∃ (T : Addr) (t : Tok) (o : Obj) (n : Nat), ys[j]? = some (Value.ref T) ∧ (T, o) ∈ nw ∧ o.cls = .type "tuple" ∧ o.data = .seq #[.int (sgn.getD j 0) t, .int (j : Nat) u] n

set_option maxHeartbeats 1000000 in
theorem ct_worth {al : Array UInt8} {sg : List Int} {t : Tok} (S : Sit p lz w mean mg mb dp un gd base outer (n + 1) s.heap)
  (ha : KBw.bInts al = sg) (hsg : sg.length = 64) (hsn : sg = sgn)
  (hret : ∀ d o us h' tk', s.heap.StaysIn h' → h'.get? d = some o → s.heap.get? d = none → o.IsDictOf (PySem.intKind prog w) (psOf us) → us.length = 64 → (d == sysModules) = false → Q (.ref d) { s with heap := h', toks := tk' }) :
  wpAny (model prog w) (ar dp un gd outer) (call (.ref 71) [.bytes al t]) Q E s := by
  k_dflt refine' enterC (binds := [(Str.ofString "alphabet", .bytes al t)]) S ?k6 ?k7 ?k9 ?kB ?kD ?c2 ?c3 ?c4 ?_
  walk_at "enter_c"
  k_steps
  rename_i F3 N3 _ _ _ _ _ hr4 F4 N4 k4
  refine comp_range (n := 64) rfl F4 N4 hr4 (small_ab (by lia) (by lia) (by lia)) (by rw [rangeSize_ab (by lia)]; lia) (by rw [sizeLine_eq]; lia) ?_
  intro g
  refine Gr.comp_grow (fun i ys nw => ∃ tl, nw = (L1 + 1, o1) :: tl ∧ WJ i ys tl) ?_ ⟨[], rfl, rfl, [], rfl, fun j u h => by simp at h⟩ ?_
  · rintro i v I oI C oC D m₂ ys nw h tk E' hi ⟨_, t, rfl⟩ ⟨tl, rfl, hJ⟩ hC hx F5 N5 off ne
    k_steps
    rename_i t5 _ _ _ T5 h5 F6 N6 l6
    have e1 : (0 + (i : Int) * 1).toNat = i := by lia
    have e2 : (0 + (i : Int) * 1) = (i : Int) := by lia
    rw [e1, e2] at N6
    refine LCg.CompEnd.intro F6 N6 ((L1 + 1, o1) :: (T5, { cls := Value.type "tuple", data := Data.seq #[Value.int (sg.getD i 0) t5, Value.int (i : Int) t] }) :: tl) (fun p hp => ?_) ⟨off.1, ⟨?_, off.2⟩⟩ trivial ⟨_, rfl, ?_⟩
    · simp only [List.mem_cons] at hp ⊢
      rcases hp with h | h | h | h | h | h <;> simp [h]
    · obtain ⟨q1, q2, q3, _⟩ := l6
      exact ⟨fun q => by have q' : T5 = I := q; lia, fun q => by have q' : T5 = C := q; lia, fun q => by have q' : T5 = D := q; lia⟩
    · obtain ⟨hl, us, hu, hJ'⟩ := hJ
      refine ⟨by simp [hl], us ++ [t], by simp [hu], fun j u hj => ?_⟩
      rcases Nat.lt_or_ge j i with h1 | h1
      · rw [List.getElem?_append_left (by lia)] at hj
        obtain ⟨T, t', o, n', a1, a2, a3⟩ := hJ' j u hj
        exact ⟨T, t', o, n', by rw [List.getElem?_append_left (by lia)]; exact a1, .tail _ a2, a3⟩
      · obtain rfl : j = i := by
          have := (List.getElem?_eq_some_iff.mp hj).1
          simp at this; lia
        rw [List.getElem?_append_right (by lia), hu, Nat.sub_self] at hj
        simp at hj; subst hj
        exact ⟨T5, t5, _, _, by rw [List.getElem?_append_right (by lia), hl, Nat.sub_self]; rfl, .head _, rfl, by rw [hsn]⟩
  · rintro ys nw ⟨tl, rfl, hJ⟩
    k_steps
    rename_i D5 h5 tk5 F5 N5 o5
    obtain ⟨hl, us, hu, hJ'⟩ := hJ
    refine dict_pairsN (knd := PySem.intKind _ _) (ys := ys) (ps := psOf us) rfl F5 N5 (Top.nolimit T1) (.head _) (by rw [psOf_len]; lia) (by rw [psOf_len]; lia) (fun j k v hj => ?_) fun d h' tk' o F6 N6 hd hsys _ => ?_
    · have hj1 := (List.getElem?_eq_some_iff.mp hj).1
      rw [psOf_len] at hj1
      have hj2 := List.getElem?_eq_getElem hj1
      rw [psOf_get hj2] at hj; cases hj
      obtain ⟨T, t', o, n', a1, a2, a3, a4⟩ := hJ' j _ hj2
      exact ⟨T, _, o, n', a1, .tail _ (.tail _ a2), a3, a4, intKind_is _ _ _ _⟩
    · rw [merged_nil_of_nodup _ (psOf_nodup hu)] at hd
      k_steps
      exact hret d o us _ _ F6.keep (N6 _ (.head _)).1 (N6 _ (.head _)).2.2 hd hu hsys
end

section
variable {prog : Program} {w : World} {K : Type} [DecidableEq K] {knd : KeyKind prog w K} {A : Around} {E : Value → Shared → Prop} {s : Shared} {h₀ : Heap} {L d : Addr} {m : Str → Option Value} {kvs : List (K × Value)} {k : K} {key v : Value}
theorem dict_up {h h' : Heap} (hD : h.DictOf knd d kvs) (k : h.StaysIn h') : h'.DictOf knd d kvs := by
  obtain ⟨o, es, ep, ho, r⟩ := hD
  exact ⟨o, es, ep, k _ _ ho, r⟩
theorem dict_notin_K {Q : Value → Shared → Prop} (F : Fr h₀ L s.heap m) (hD : h₀.DictOf knd d kvs) (lo : (d == sysModules) = false) (hkey : knd.is k key = true) (b : Bool) (hb : (valueAt kvs k).isSome = b) (h : Q (.bool (!b)) { s with toks := s.toks + 1 }) :
    wpAny (model prog w) A (compareOp .NotIn key (.ref d)) Q E s := wpAny_notIn_of hkey lo (dict_up hD F.keep).mapOf (by rw [hb]; exact h)
theorem dict_item_K {value slice : PySem.Expr} {Q : Value → Shared → Prop} (F : Fr h₀ L s.heap m) (hD : h₀.DictOf knd d kvs) (hkey : knd.is k key = true) (hl : valueAt kvs k = some v) (h : Q v { s with toks := s.toks + 1 })
    (hs : subscripted slice false (.ref d) key = operate [.ref d, key] (getItem (.ref d) key) := by with_unfolding_all rfl) (hg : ∀ r, letTemporaryGo value (.ref d) r = pure () := by intro _; with_unfolding_all rfl) :
    wpAny (model prog w) A (subscriptTail value slice (.ref d) key) Q E s :=
  have hD' := dict_up hD F.keep
  subscriptTail_builtin hD'.typeIs slot_dict_getitem.lookup (wpAny_getItem_of hkey hD'.mapOf hl h) hs hg
end
theorem isSome_of {α : Type} {x : Option α} {v : α} (h : x = some v) : x.isSome = true := by rw [h]; rfl
theorem valueAt_nodup : ∀ {kvs : List (Int × Value)} {j : Nat} {k : Int} {v : Value}, (kvs.map (·.1)).Nodup → kvs[j]? = some (k, v) → valueAt kvs k = some v
  | [], _, _, _, _, h => by simp at h
  | (k', v') :: r, 0, k, v, _, h => by simp at h; simp [valueAt, h]
  | (k', v') :: r, j + 1, k, v, hn, h => by
    simp only [List.map_cons, List.nodup_cons] at hn
    have h' : r[j]? = some (k, v) := by simpa using h
    have hm : k ∈ r.map (·.1) := List.mem_map.mpr ⟨(k, v), List.mem_of_getElem? h', rfl⟩
    have hne : ¬ k' = k := fun q => hn.1 (q ▸ hm)
    have := valueAt_nodup hn.2 h'
    simp only [valueAt] at this ⊢
    simpa [hne] using this
theorem valueAt_psOf {us : List Tok} (h : us.length = 64) {j : Nat} (hj : j < 64) : ∃ u, valueAt (psOf us) (sgn.getD j 0) = some (.int (j : Nat) u) :=
  ⟨us[j], valueAt_nodup (psOf_nodup h) (psOf_get (List.getElem?_eq_getElem (by lia)))⟩
section
variable {prog p : Program} {lz : List Str} {w : World} {mean : ExcName → Option Value} {mg mb : Str → Option Value} {dp un : Nat} {gd : Option (List Code)} {base : Heap} {outer : List Env} {n : Nat}
  {Q E : Value → Shared → Prop} {s : Shared}
local macro_rules | `(tactic| walk_at "pyIter ref") => `(tactic| (k_here; (with_reducible show wpAny _ _ (pyIter _) _ _ _); refine halt ?_))
local macro_rules | `(tactic| walk_at "compareOp NotIn int ref") => `(tactic| (k_here; k_dflt (refine dict_notin_K (knd := PySem.intKind _ _) (by k_asm) (by assumption) (by assumption) (intKind_is _ _ _ _) true (isSome_of (by assumption)) ?_); (try dsimp only [Bool.not_true, Bool.not_false])))
local macro_rules | `(tactic| walk_at "subscriptTail") => `(tactic| (k_here; k_dflt (refine dict_item_K (knd := PySem.intKind _ _) (by k_asm) (by assumption) (intKind_is _ _ _ _) (by assumption) ?_)))
set_option maxHeartbeats 2000000 in
theorem ct_part_numbers {b : Array UInt8} {ks : List Int} {ns : List Nat} {us : List Tok} {d : Addr} {t : Tok} (S : Sit p lz w mean mg mb dp un gd base outer (n + 1) s.heap)
  (hb : KBw.bInts b = ks) (hks : ks = ns.map fun j => sgn.getD j 0) (hns : ∀ j ∈ ns, j < 64) (hk : ks.length ≤ 100000)
  (hD : s.heap.DictOf (PySem.intKind prog w) d (psOf us)) (hu : us.length = 64) (lo : (d == sysModules) = false)
  (hret : ∀ l ys e h' tk', s.heap.StaysIn h' → h'.get? l = some (W.listOf ys.toArray e) → s.heap.get? l = none → IntsAre ys (ns.map fun j : Nat => (j : Int)) → Q (.ref l) { s with heap := h', toks := tk' }) :
  wpAny (model prog w) (ar dp un gd outer) (call (.ref 95) [.bytes b t, .ref d]) Q E s := by
  k_dflt refine' enterS (binds := [(Str.ofString "signs", .bytes b t), (Str.ofString "worths", .ref d)]) S ?k6 ?k7 ?k9 ?kB ?c2 ?c3 ?c4 ?c5 ?_
  walk_at "enter_s"
  k_with "pyIter ref" => fail "stop"
  k_steps
  rename_i l4 _ _ _ _ _ _ _ _ _ _ hr4 F4 N4 k4
  have hkn : ks.length = ns.length := by rw [hks]; simp
  refine unhalt (kst_range (σ := List Value × Nat) (n := ns.length) (fun c => [(l4, W.listOf c.1.toArray c.2)]) (fun _ => []) (fun _ => True) [] (fun pre c => IntsAre c.1 ((ns.take pre.length).map fun j : Nat => (j : Int))) ⟨[], 0⟩ rfl hr4 (small_ab (by lia) (by lia) (by lia)) (by rw [rangeSize_ab (by lia)]; lia) F4 N4 trivial (fun _ h => nomatch h) .nil ?_ ?_)
  · rintro ⟨vs, k1⟩ pre k t u h tk own e hlt hoff _ hp F N
    dsimp only at hp F N
    have hj : pre.length < ns.length := hlt
    have hg : ks.getD k.toNat 0 = sgn.getD ns[pre.length] 0 := by
      have : k.toNat = pre.length := by lia
      rw [this, hks]; simp [hj]
    obtain ⟨u9, hv9⟩ := valueAt_psOf hu (hns _ (List.getElem_mem hj))
    rw [← hg] at hv9
    have hvl := hp.length
    simp only [List.length_map, List.length_take] at hvl
    k_steps
    (rename News _ _ _ _ => nE); simp only [List.push_toArray] at nE
    (with_unfolding_all refine' kst_end (vs ++ [Value.int (ns[pre.length] : Nat) u9], _) ?hF ?hN ?hn ?ho ?ha ?hf ?hk ?hr ?hp); walk_at "inv_end"
    rw [List.length_append, List.length_singleton, List.take_add_one, List.getElem?_eq_getElem hj, List.map_append]
    exact IntsAre.append hp (.cons _ _ .nil)
  · rintro ⟨vs, k⟩ u h tk _ hp F N
    dsimp only at hp F N
    rw [rangeKs_length, List.take_length] at hp
    k_steps
    exact hret l4 vs k _ _ (Fr.keep (by assumption)) (N _ (.head _)).1 (N _ (.head _)).2.2 hp
end

theorem keys6 : True := by
  k_with "call ref" => ((k_here; k_dflt (refine' ct_worth (Sit.use (by k_asm) (by k_asm) (by k_asm) (by k_asm) (by walk_at "sitn") (by walk_at "sitn")) (by first | assumption | rfl | decide +kernel) (by rfl) (by rfl) ?_); intro d7 o7 us7 h7 tk7 k7 e7 f7 i7 u7 s7; (rename Fr _ _ _ _ => F6); (rename News _ _ _ _ => N6); (have F7 := fr_stays F6 k7); (have N7 := news_add F6 N6 k7 e7 f7); (have n7 := news_ne N6 f7); clear e7 f7; (try dsimp only)))
  k_with "call ref" => ((k_here; k_dflt (refine' ct_part_numbers (us := us7) (Sit.use (by k_asm) (by k_asm) (by k_asm) (by k_asm) (by walk_at "sitn") (by walk_at "sitn")) (by kba_ints) (by assumption) (by assumption) (by walk_at "side") (by exact kda_dict (by k_asm) (by k_mem) (by assumption)) (by assumption) (by assumption) ?_); intro l8 ys8 x8 h8 tk8 k8 e8 f8 i8; (rename Fr _ _ _ _ => F6); (rename News _ _ _ _ => N6); (have F8 := fr_stays F6 k8); (have N8 := news_add F6 N6 k8 e8 f8); (have n8 := news_ne N6 f8); clear e8 f8; (try dsimp only)))
  k_with "getMethod bytes" => ((k_here; (with_reducible show wpAny _ _ (getMethod (Value.bytes _ _) (PySem.Str.ofString "join") _) _ _ _); k_dflt (refine' BJ.joinMethod ?_)))
  trivial

noncomputable def pDecL (ns : List Int) (i : Nat) : List (List Int) := (List.range i).map fun i => gOcts ((ns.drop (4 * i)).take 4)
noncomputable def GoodGroup (g : List Int) : Prop := 2 ≤ g.length ∧ wTot g % 2 ^ (8 - 2 * g.length) = 0
noncomputable def nInts (ns : List Nat) : List Int := ns.map fun j : Nat => (j : Int)

theorem pDecL_sum (ns : List Int) (i : Nat) : ((pDecL ns i).map (·.length)).sum ≤ 3 * i := by
  induction i with
  | zero => simp [pDecL]
  | succ i ih =>
    have e : pDecL ns (i + 1) = pDecL ns i ++ [gOcts ((ns.drop (4 * i)).take 4)] := by simp [pDecL, List.range_succ]
    have := gOcts_len ((ns.drop (4 * i)).take 4)
    rw [e, List.map_append, List.sum_append]
    simp only [List.map_cons, List.map_nil, List.sum_cons, List.sum_nil, List.length_take] at *
    lia
theorem take_clip {α : Type} (l : List α) (i m : Nat) : List.take (min (i + m) l.length - i) (List.drop i l) = (l.drop i).take m := by
  rcases Nat.le_total (i + m) l.length with h | h
  · rw [Nat.min_eq_left h, Nat.add_sub_cancel_left]
  · have e : (l.drop i).length = l.length - i := List.length_drop
    rw [Nat.min_eq_right h, List.take_of_length_le (Nat.le_of_eq e), List.take_of_length_le (by rw [e]; exact Nat.sub_le_iff_le_add'.mpr h)]

section
variable {prog : Program} {w : World} {A : Around} {E : Value → Shared → Prop} {s : Shared}
theorem bytes_contains {b : Array UInt8} {c : Int} (h0 : 0 ≤ c) (h1 : c < 256) : b.contains c.toNat.toUInt8 = (KBw.bInts b).contains c := by
  rw [Bool.eq_iff_iff]
  simp only [Array.contains_iff_mem, List.contains_iff_mem, KBw.bInts, List.mem_map, Array.mem_toList_iff]
  constructor
  · intro h
    refine ⟨_, h, ?_⟩
    have : c.toNat < 256 := by lia
    simp [Nat.toUInt8, UInt8.toNat_ofNat', Nat.mod_eq_of_lt this]
    lia
  · rintro ⟨x, hx, rfl⟩
    simpa using hx
theorem in_bytes {c : Int} {t u : Tok} {b : Array UInt8} {ks : List Int} {Q : Value → Shared → Prop} (hk : KBw.bInts b = ks) (h0 : 0 ≤ c) (h1 : c < 256) (h : Q (.bool (ks.contains c)) s) :
    wpAny (model prog w) A (compareOp .In (.int c t) (.bytes b u)) Q E s := by
  subst hk
  have hT : s.TypeIs (.bytes b u) "bytes" := typeIs_bytes s b u
  show wpAny _ _ (do return .bool (← contains (.bytes b u) (.int c t))) Q E s
  refine wpAny_bind ?_
  unfold contains
  try with_reducible refine wpAny_holding ?_
  refine wpAny_bind (wpAny_specialOf hT FB.slot_bytes_contains.lookup ?_)
  show wpAny _ _ (if (some (Value.builtin "bytes.__contains__") == some Value.none) = true then _ else _) _ E s
  rw [if_neg (by rw [beq_builtin_none]; exact Bool.false_ne_true)]
  refine wpAny_bind (wpAny_callSpecialUnlessNone?_slot (name := Str.ofString "__contains__") hT FB.slot_bytes_contains
    (wpAny_call_entry FB.slot_bytes_contains hT FB.entry_bytes_contains ?_ (FB.args_bytes_contains_2 _ _)))
  show wpAny _ _ (Builtin.Bytes.containsIn "bytes.__contains__" (.bytes b u) (.int c t) >>= _) _ _ s
  unfold Builtin.Bytes.containsIn
  refine wpAny_bind (wpAny_bind (wpAny_attempt ?_))
  refine wpAny_of_eq (a := c) rfl ?_
  refine wpAny_bind (BA.buffer_bytes ?_)
  dsimp only
  rw [if_neg (by simp; lia)]
  refine wpAny_pure ?_
  refine wpAny_pure ⟨_, rfl, wpAny_truthy_bool (wpAny_pure ?_)⟩
  rw [bytes_contains h0 h1]; exact h
end

theorem keys7 : True := by
  k_with "compareOp In int bytes" => ((k_here; k_dflt (refine' in_bytes (ks := sgn) (by first | rfl | decide +kernel) (by lia) (by lia) ?_)))
  trivial

noncomputable def sEnd (os : List Int) (b : Nat) : Nat := b + ((os.drop b).takeWhile fun c => sgn.contains c).length
theorem sEnd_stop {os : List Int} {b : Nat} (h : b < os.length) (hp : sgn.contains os[b] = false) : sEnd os b = b := by
  unfold sEnd
  rw [List.drop_eq_getElem_cons h, List.takeWhile_cons, hp]; simp
theorem sEnd_step {os : List Int} {b : Nat} (h : b < os.length) (hp : sgn.contains os[b] = true) : sEnd os b = sEnd os (b + 1) := by
  unfold sEnd
  rw [List.drop_eq_getElem_cons h, List.takeWhile_cons, hp]; simp; lia
theorem sEnd_end {os : List Int} {b : Nat} (h : os.length ≤ b) : sEnd os b = b := by
  unfold sEnd
  rw [List.drop_of_length_le h]; simp
theorem sEnd_le {os : List Int} {b : Nat} (h : b ≤ os.length) : b ≤ sEnd os b ∧ sEnd os b ≤ os.length := by
  unfold sEnd
  have := (List.takeWhile_sublist (l := os.drop b) fun c => sgn.contains c).length_le
  simp only [List.length_drop] at this
  lia

noncomputable def unitAt (rs : List Int) (i : Nat) : Int := rs.getD (2 * i) 0 * 256 + rs.getD (2 * i + 1) 0
noncomputable def unitsOf (rs : List Int) (n : Nat) : List Int := (List.range n).map (unitAt rs)
theorem unitsOf_succ (rs : List Int) (n : Nat) : unitsOf rs (n + 1) = unitsOf rs n ++ [unitAt rs n] := by simp [unitsOf, List.range_succ]
theorem pow10 : (2 : Int) ^ Int.toNat 10 = 1024 := rfl
theorem join_singles (ds : List Nat) : PySem.Txt.join (PySem.Str.ofString "") (ds.map fun d => (⟨#[d]⟩ : PySem.Str)) = ⟨ds.toArray⟩ := by
  show Builtin.Str.glued _ _ = _
  rw [StrLaws.glued_eq_join]
  have key : ∀ ds : List Nat, Str.join (PySem.Str.ofString "") (ds.map fun d => (⟨#[d]⟩ : PySem.Str)) = ⟨ds.toArray⟩ := by
    intro ds
    induction ds with
    | nil => rfl
    | cons d r ih =>
      cases r with
      | nil => rfl
      | cons d' r =>
        simp only [List.map_cons] at ih ⊢
        rw [Str.join, ih]
        · show (⟨(#[d] ++ (PySem.Str.ofString "").cps) ++ (d' :: r).toArray⟩ : PySem.Str) = _
          simp [show (PySem.Str.ofString "").cps = #[] from rfl]
        · simp
  exact key ds
theorem strs_snoc {vs : List Value} {ds : List Nat} (h : StrsAre vs (ds.map fun d => (⟨#[d]⟩ : PySem.Str))) (d : Nat) (t : Tok) : StrsAre (vs ++ [Value.str ⟨#[d]⟩ t]) ((ds ++ [d]).map fun d => (⟨#[d]⟩ : PySem.Str)) := by
  rw [List.map_append]
  exact StrsAre.append' h (.cons _ _ .nil)

theorem join_lists (tx : List (List Nat)) : PySem.Txt.join (PySem.Str.ofString "") (tx.map fun d => (⟨d.toArray⟩ : PySem.Str)) = ⟨tx.flatten.toArray⟩ := by
  show Builtin.Str.glued _ _ = _
  rw [StrLaws.glued_eq_join]
  induction tx with
  | nil => rfl
  | cons d r ih =>
    cases r with
    | nil => simp [Str.join]
    | cons d' r =>
      simp only [List.map_cons] at ih ⊢
      rw [Str.join, ih]
      · show (⟨(d.toArray ++ (PySem.Str.ofString "").cps) ++ (d' :: r).flatten.toArray⟩ : PySem.Str) = _
        simp [show (PySem.Str.ofString "").cps = #[] from rfl]
      · simp
theorem strs_snocL {vs : List Value} {tx : List (List Nat)} (h : StrsAre vs (tx.map fun d => (⟨d.toArray⟩ : PySem.Str))) (d : List Nat) (t : Tok) : StrsAre (vs ++ [Value.str ⟨d.toArray⟩ t]) ((tx ++ [d]).map fun d => (⟨d.toArray⟩ : PySem.Str)) := by
  rw [List.map_append]
  exact StrsAre.append' h (.cons _ _ .nil)

/-! plain mathematics: the numbers of a shift -/
noncomputable def gNums (ks : List Int) : List Nat := (List.range (ks.length + 1)).map fun i => ((gTot ks * 2 ^ (6 - 2 * ks.length)) / 2 ^ (6 * (ks.length - i)) % 64).toNat
theorem gCodes_nums (sg ks : List Int) : gCodes sg ks = (gNums ks).map fun j => sg.getD j 0 := by
  simp only [gCodes, gNums, List.map_map]; rfl
noncomputable def pNums : List Int → List Nat
  | a :: b :: c :: r => gNums [a, b, c] ++ pNums r
  | [a, b] => gNums [a, b]
  | [a] => gNums [a]
  | [] => []
theorem pEnc_front (sg : List Int) (a b c : Int) (r : List Int) : ∀ i, pEnc sg (a :: b :: c :: r) (i + 1) = gCodes sg [a, b, c] ++ pEnc sg r i
  | 0 => by simp [pEnc]
  | i + 1 => by
    have ih := pEnc_front sg a b c r i
    rw [pEnc, ih, pEnc, List.append_assoc]
    have : 3 * (i + 1) = 3 * i + 1 + 1 + 1 := by lia
    rw [this]
    simp only [List.drop_succ_cons]
theorem pEnc_nums (sg : List Int) : ∀ ks : List Int, pEnc sg ks ((ks.length + 2) / 3) = (pNums ks).map fun j => sg.getD j 0
  | a :: b :: c :: r => by
    have e : ((a :: b :: c :: r).length + 2) / 3 = (r.length + 2) / 3 + 1 := by simp only [List.length_cons]; lia
    rw [e, pEnc_front, pEnc_nums sg r, pNums, List.map_append, gCodes_nums]
  | [a, b] => by simp [pEnc, pNums, gCodes_nums]
  | [a] => by simp [pEnc, pNums, gCodes_nums]
  | [] => by simp [pEnc, pNums]
theorem gNums_lt (ks : List Int) : ∀ j ∈ gNums ks, j < 64 := by
  intro j hj
  obtain ⟨i, _, rfl⟩ := List.mem_map.mp hj
  lia
theorem pNums_lt : ∀ ks : List Int, ∀ j ∈ pNums ks, j < 64
  | a :: b :: c :: r => by
    intro j hj
    rw [pNums] at hj
    rcases List.mem_append.mp hj with h | h
    · exact gNums_lt _ _ h
    · exact pNums_lt r _ h
  | [a, b] => gNums_lt _
  | [a] => gNums_lt _
  | [] => fun _ h => nomatch h
theorem gNums_len (ks : List Int) : (gNums ks).length = ks.length + 1 := by simp [gNums]
theorem six4 (L : Nat) : (8 * (L + 3) + 5) / 6 = 4 + (8 * L + 5) / 6 := by
  rw [show 8 * (L + 3) + 5 = 8 * L + 5 + 4 * 6 from Nat.add_right_comm (8 * L) 24 5, Nat.add_mul_div_right _ _ (by decide), Nat.add_comm]
theorem six_ge (L : Nat) : 8 * L ≤ 6 * ((8 * L + 5) / 6) := by lia
theorem pNums_len : ∀ ks : List Int, (pNums ks).length = (8 * ks.length + 5) / 6
  | a :: b :: c :: r => by
    rw [pNums, List.length_append, gNums_len, pNums_len r]; exact (six4 r.length).symm
  | [a, b] => by simp [pNums, gNums_len]
  | [a] => by simp [pNums, gNums_len]
  | [] => rfl

/-! one number cut into sixes -/
noncomputable def sixes (x : Int) (n : Nat) : List Nat := (List.range n).map fun i => (x / 64 ^ (n - 1 - i) % 64).toNat
theorem pow64_pos (n : Nat) : (0 : Int) < 64 ^ n := Int.pow_pos (by decide)
theorem sixes_app {A B : Int} {k m : Nat} (h0 : 0 ≤ B) (h1 : B < 64 ^ m) : sixes (A * 64 ^ m + B) (k + m) = sixes A k ++ sixes B m := by
  unfold sixes
  rw [List.range_add, List.map_append, List.map_map]
  congr 1
  · refine List.map_congr_left fun i hi => ?_
    have hi := List.mem_range.mp hi
    have e : k + m - 1 - i = m + (k - 1 - i) := by rw [Nat.add_comm k m, Nat.sub_sub, Nat.sub_sub, Nat.add_sub_assoc (by rw [Nat.add_comm]; exact hi)]
    have e2 : (A * 64 ^ m + B) / 64 ^ m = A := by
      rw [Int.add_comm, Int.add_mul_ediv_right _ _ (Int.ne_of_gt (pow64_pos m)), Int.ediv_eq_zero_of_lt h0 h1, Int.zero_add]
    rw [e, Int.pow_add, ← Int.ediv_ediv_of_nonneg (Int.le_of_lt (pow64_pos m)), e2]
  · refine List.map_congr_left fun i hi => ?_
    have hi := List.mem_range.mp hi
    show ((A * 64 ^ m + B) / 64 ^ (k + m - 1 - (k + i)) % 64).toNat = (B / 64 ^ (m - 1 - i) % 64).toNat
    have e : k + m - 1 - (k + i) = m - 1 - i := by rw [Nat.sub_sub, Nat.sub_sub, Nat.add_left_comm, Nat.add_sub_add_left]
    have e2 : (64 : Int) ^ m = 64 ^ i * 64 * 64 ^ (m - 1 - i) := by
      rw [Int.mul_assoc, Int.mul_comm (64 : Int), ← Int.pow_succ, ← Int.pow_add, show i + (m - 1 - i).succ = m by rw [Nat.sub_right_comm m 1 i, Nat.succ_eq_add_one, Nat.sub_add_cancel (Nat.sub_pos_of_lt hi)]; exact Nat.add_sub_cancel' (Nat.le_of_lt hi)]
    rw [e, e2, ← Int.mul_assoc, Int.add_comm, Int.add_mul_ediv_right _ _ (Int.ne_of_gt (pow64_pos _)), ← Int.mul_assoc, Int.add_mul_emod_self_right]
theorem gTot_acc (ks : List Int) : ∀ t : Int, ks.foldl (fun t c => 256 * t + c) t = t * 256 ^ ks.length + gTot ks := by
  unfold gTot
  induction ks with
  | nil => intro t; simp
  | cons c ks ih =>
    intro t
    rw [List.foldl_cons, List.foldl_cons, ih, ih (256 * 0 + c), List.length_cons, Int.pow_succ, Int.add_mul, Int.mul_zero, Int.zero_add, Int.add_assoc, Int.mul_comm 256 t, Int.mul_assoc, Int.mul_comm (256 : Int)]
theorem gTot_app (ks ls : List Int) : gTot (ks ++ ls) = gTot ks * 256 ^ ls.length + gTot ls := by
  rw [← gTot_acc]; unfold gTot; rw [List.foldl_append]
theorem gTot_lt : ∀ ks : List Int, (∀ k ∈ ks, 0 ≤ k ∧ k < 256) → 0 ≤ gTot ks ∧ gTot ks < 256 ^ ks.length
  | [] => fun _ => by simp [gTot]
  | c :: ks => fun h => by
    have ih := gTot_lt ks fun k hk => h k (.tail _ hk)
    have hc := h c (.head _)
    have e : gTot (c :: ks) = c * 256 ^ ks.length + gTot ks := by
      have := gTot_app [c] ks
      simpa [gTot] using this
    have hp : (0 : Int) < 256 ^ ks.length := Int.pow_pos (by decide)
    rw [e, List.length_cons, Int.pow_succ]
    have h1 : 0 ≤ c * 256 ^ ks.length := Int.mul_nonneg hc.1 (Int.le_of_lt hp)
    have h2 : c * 256 ^ ks.length ≤ 255 * 256 ^ ks.length := Int.mul_le_mul_of_nonneg_right (by lia) (Int.le_of_lt hp)
    lia
theorem pow2_64 (n : Nat) : (2 : Int) ^ (6 * n) = 64 ^ n := by rw [Int.pow_mul]; rfl
theorem pow2_256 (n : Nat) : (256 : Int) ^ n = 2 ^ (8 * n) := by rw [Int.pow_mul]; rfl
theorem gNums_sixes (ks : List Int) : gNums ks = sixes (gTot ks * 2 ^ (6 - 2 * ks.length)) (ks.length + 1) := by
  unfold gNums sixes
  refine List.map_congr_left fun i _ => ?_
  rw [pow2_64]; simp
theorem pNums_sixes : ∀ ks : List Int, (∀ k ∈ ks, 0 ≤ k ∧ k < 256) → pNums ks = sixes (gTot ks * 2 ^ (6 * ((8 * ks.length + 5) / 6) - 8 * ks.length)) ((8 * ks.length + 5) / 6)
  | a :: b :: c :: r => fun h => by
    have ih := pNums_sixes r fun k hk => h k (.tail _ (.tail _ (.tail _ hk)))
    have hr := gTot_lt r fun k hk => h k (.tail _ (.tail _ (.tail _ hk)))
    have hL : (a :: b :: c :: r).length = r.length + 3 := rfl
    have e1 := six4 r.length
    have e2 : 6 * (4 + (8 * r.length + 5) / 6) - 8 * (r.length + 3) = 6 * ((8 * r.length + 5) / 6) - 8 * r.length := by
      rw [Nat.mul_add, Nat.mul_add]; exact (congrArg (fun z => 6 * 4 + 6 * ((8 * r.length + 5) / 6) - z) (Nat.add_comm (8 * r.length) (8 * 3))).trans (Nat.add_sub_add_left (6 * 4) _ _)
    have e3 : gTot (a :: b :: c :: r) = gTot [a, b, c] * 256 ^ r.length + gTot r := gTot_app [a, b, c] r
    have e4 : (256 : Int) ^ r.length * 2 ^ (6 * ((8 * r.length + 5) / 6) - 8 * r.length) = 64 ^ ((8 * r.length + 5) / 6) := by
      rw [pow2_256, ← Int.pow_add, ← pow2_64, Nat.add_sub_cancel' (six_ge _)]
    have hp : (0 : Int) < 2 ^ (6 * ((8 * r.length + 5) / 6) - 8 * r.length) := Int.pow_pos (by decide)
    rw [pNums, hL, e1, e2, e3, Int.add_mul, Int.mul_assoc, e4, sixes_app (Int.mul_nonneg hr.1 (Int.le_of_lt hp)) (by rw [← e4]; exact Int.mul_lt_mul_of_pos_right hr.2 hp), ih, gNums_sixes]
    simp
  | [a, b] => fun _ => by rw [pNums, gNums_sixes]; simp
  | [a] => fun _ => by rw [pNums, gNums_sixes]; simp
  | [] => fun _ => rfl
/-- the signs of a shift: its units as one number, cut into sixes -/
theorem pEnc_sixes (sg ks : List Int) (h : ∀ k ∈ ks, 0 ≤ k ∧ k < 256) :
    pEnc sg ks ((ks.length + 2) / 3) = (sixes (gTot ks * 2 ^ (6 * ((8 * ks.length + 5) / 6) - 8 * ks.length)) ((8 * ks.length + 5) / 6)).map fun j => sg.getD j 0 := by
  rw [pEnc_nums, pNums_sixes ks h]


/-- a code of a run -/
noncomputable def RunCode (c : Nat) : Prop := plainN c = false ∧ c < 1114112 ∧ ¬ (55296 ≤ c ∧ c ≤ 57343)
theorem plainN_iff (c : Nat) : plainN c = true ↔ 32 ≤ c ∧ c ≤ 126 := by unfold plainN; simp; lia
theorem plainN_false (c : Nat) : plainN c = false ↔ ¬ (32 ≤ c ∧ c ≤ 126) := by rw [← plainN_iff]; simp
theorem u16_cons (c : Nat) (cs : List Nat) : u16 (c :: cs) = u16one (c : Int) ++ u16 cs := rfl
theorem u16one_even (c : Int) : (u16one c).length = 2 ∨ (u16one c).length = 4 := by unfold u16one; split <;> simp
theorem u16_even : ∀ cs : List Nat, (u16 cs).length % 2 = 0
  | [] => rfl
  | c :: cs => by
    have := u16_even cs; have := u16one_even (c : Int)
    rw [u16_cons, List.length_append]; lia
/-! the octets of a text -/
theorem enc_cons_plain {c : Nat} {cs : List Nat} (h : plainN c = true) : enc (c :: cs) = (if c = 38 then [38, 45] else [(c : Int)]) ++ enc cs := by
  rw [enc_cons, if_pos h]
theorem takeWhile_app {p : Nat → Bool} : ∀ {run rest : List Nat}, (∀ c ∈ run, p c = true) → (∀ c ∈ rest.head?, p c = false) → (run ++ rest).takeWhile p = run
  | [], [], _, _ => rfl
  | [], c :: r, _, h => by
    have := h c rfl
    simp [this]
  | c :: run, rest, h, h2 => by
    rw [List.cons_append, List.takeWhile_cons, h c (.head _)]
    simp only [if_true]
    rw [takeWhile_app (fun x hx => h x (.tail _ hx)) h2]
theorem enc_app_run {run rest : List Nat} (hne : run ≠ []) (h : ∀ c ∈ run, plainN c = false) (h2 : ∀ c ∈ rest.head?, plainN c = true) : enc (run ++ rest) = encRun run ++ enc rest := by
  have hT : (run ++ rest).takeWhile (fun c => !plainN c) = run := takeWhile_app (fun c hc => by simp [h c hc]) (fun c hc => by simp [h2 c hc])
  have hE : runEnd (run ++ rest) 0 = run.length := by unfold runEnd; rw [List.drop_zero, hT, Nat.zero_add]
  match run, hne with
  | c :: run, _ =>
    rw [List.cons_append] at hT hE ⊢
    rw [enc_cons, if_neg (by simp [h c (.head _)]), hT, hE]
    congr 2
    rw [← List.cons_append, List.drop_left']
    rfl
theorem sgn_mem {j : Nat} (h : j < 64) : sgn.contains (sgn.getD j 0) = true := by
  have : ∀ j, j < 64 → sgn.contains (sgn.getD j 0) = true := by decide
  exact this j h
theorem sgn_range : ∀ x ∈ sgn, 32 ≤ x ∧ x ≤ 126 ∧ x ≠ 38 ∧ x ≠ 45 := by decide

/-! exception classes of the text with an __init__ of their own -/
namespace FX
noncomputable abbrev bmE : List Value := [.type "Exception", .type "BaseException", .type "object"]
noncomputable abbrev fMro : List Value := .ref 39 :: bmE
noncomputable def quiet : List Str := ["__setattr__", "__getattribute__", "__getattr__", "what", "at"]
structure Cls (h : Heap) (C : Addr) : Prop where
  obj : ∃ N nm q bs sn sub ab col dd k0 k1 k2 k3 k5 mN, h.get? C = some (excClassObj nm q C N bs fMro true sn sub ab col dd k0 k1 k2 k3 k5 "Exception.__new__") ∧ h.Ns N mN ∧ mN "__init__" = none ∧ ∀ n ∈ quiet, mN n = none
  post : ∃ c0 dd cd sl m39, h.get? 39 = some { cls := c0, dict := dd, data := .cls cd, slots := sl } ∧ h.Ns cd.ns m39 ∧ m39 "__init__" = some (.ref 29) ∧ ∀ n ∈ quiet, m39 n = none
  init : ∃ o, h.get? 29 = some o ∧ o.cls = .type "function"
theorem Cls.keeps {h h' : Heap} {C : Addr} (K : Cls h C) (hk : ∀ b o, h.get? b = some o → h'.get? b = some o) : Cls h' C := by
  obtain ⟨⟨N, nm, q, bs, sn, sub, ab, col, dd, k0, k1, k2, k3, k5, mN, h1, h2, h3, h4⟩, ⟨c0, dd', cd, sl, m39, g1, g2, g3, g4⟩, o, i1, i2⟩ := K
  exact ⟨⟨N, nm, q, bs, sn, sub, ab, col, dd, k0, k1, k2, k3, k5, mN, hk _ _ h1, h2.keeps hk, h3, h4⟩, ⟨c0, dd', cd, sl, m39, hk _ _ g1, g2.keeps hk, g3, g4⟩, o, hk _ _ i1, i2⟩

section
variable {M : Model} {A : Around} {E : Value → Shared → Prop} {h : Heap} {g : Array GenState} {d : Drawn} {t : Nat} {os : OsState} {C : Addr}
theorem mroE : mroOf (.type "Exception") = pure bmE := PySem.F.excBase_Exception.mroIs
theorem lookup_quiet {n : Str} {y : Option Value} {Q : Option Value → Shared → Prop} (K : Cls h C) (hn : n ∈ quiet) (hB : typeLookup (.type "Exception") n = pure y) (hq : Q y ⟨h, g, d, t, os⟩) :
    wpAny M A (typeLookup (.ref C) n) Q E ⟨h, g, d, t, os⟩ := by
  have hrest : lookupAlong bmE n = pure y := by rw [typeLookup_eq, mroE] at hB; exact hB
  obtain ⟨⟨N, nm, q, bs, sn, sub, ab, col, dd, k0, k1, k2, k3, k5, mN, h1, h2, h3, h4⟩, ⟨c0, dd', cd, sl, m39, g1, g2, g3, g4⟩, _⟩ := K
  rw [typeLookup_eq]
  refine wpAny_bind (wpAny_mroOf_exc h1 ?_)
  rw [lookupAlong_cons]
  refine wpAny_bind (wpAny_classOwn_exc h1 h2 ?_)
  rw [h4 n hn]
  show wpAny _ _ (lookupAlong fMro n) _ _ _
  rw [lookupAlong_cons]
  refine wpAny_bind (wpAny_classOwn_cls g1 g2 ?_)
  rw [g4 n hn]
  show wpAny _ _ (lookupAlong bmE n) _ _ _
  rw [hrest]
  exact wpAny_pure hq
theorem lookup_init {Q : Option Value → Shared → Prop} (K : Cls h C) (hq : Q (some (.ref 29)) ⟨h, g, d, t, os⟩) : wpAny M A (typeLookup (.ref C) "__init__") Q E ⟨h, g, d, t, os⟩ := by
  obtain ⟨⟨N, nm, q, bs, sn, sub, ab, col, dd, k0, k1, k2, k3, k5, mN, h1, h2, h3, h4⟩, ⟨c0, dd', cd, sl, m39, g1, g2, g3, g4⟩, _⟩ := K
  rw [typeLookup_eq]
  refine wpAny_bind (wpAny_mroOf_exc h1 ?_)
  rw [lookupAlong_cons]
  refine wpAny_bind (wpAny_classOwn_exc h1 h2 ?_)
  rw [h3]
  show wpAny _ _ (lookupAlong fMro "__init__") _ _ _
  rw [lookupAlong_cons]
  refine wpAny_bind (wpAny_classOwn_cls g1 g2 ?_)
  rw [g3]
  exact wpAny_pure hq
end

section
variable {prog : Program} {w : World} {A : Around} {E : Value → Shared → Prop} {h : Heap} {g : Array GenState} {d : Drawn} {t : Nat} {os : OsState} {C : Addr}
variable {nm q : Str} {N : Addr} {bs : List Value} {sn : List Str} {sub : List Value} {ab : Bool} {col : Option Bool} {dd : Option Addr} {k0 k1 k2 k3 k5 : Option Value}
theorem hasE : (Value.ref C :: fMro).contains (.type "Exception") = true := by rw [List.contains_cons, List.contains_cons]; rfl
theorem check_new {M : Model} {rest : List Value} {Q : Unit → Shared → Prop} (hC : h.get? C = some (excClassObj nm q C N bs fMro true sn sub ab col dd k0 k1 k2 k3 k5 "Exception.__new__"))
    (hq : Q () ⟨h, g, d, t, os⟩) : wpAny M A (checkBuiltinCall "Exception.__new__" ⟨.ref C :: rest, []⟩) Q E ⟨h, g, d, t, os⟩ := by
  have F := PySem.F.excBase_Exception
  have hcont := hasE (C := C)
  have hstar := F.noStar
  simp only [checkBuiltinCall, F.newKind, F.newSplit, F.newRow]
  repeat (first | refine wpAny_loadPart_at hC ?_ | (refine wpAny_isSubtype_exc hC ?_; rw [hcont]) | refine wpAny_staticBase_exc hC ?_ | refine wpAny_madeBy_exc hC ?_ | simp only [bne_self_eq_false, Bool.false_eq_true, if_false] | wp_step)
  exact hq
theorem code_new {R : Result → Shared → Prop} {rest : List Value} (hC : h.get? C = some (excClassObj nm q C N bs fMro true sn sub ab col dd k0 k1 k2 k3 k5 "Exception.__new__"))
    (hq : R (.ok (.ret (.ref (h.objs.size + 1)))) ⟨(h.push { cls := .type "tuple", data := .seq rest.toArray }).push
      { cls := .ref C, data := .fields #[.ref h.objs.size, .none, .none, .none, .bool false, .none] }, g, d, t, os⟩) (hrest : rest.length ≤ sizeLine := by size_fits) :
    codeAny (model prog w) A (.builtin "Exception.__new__" ⟨.ref C :: rest, []⟩) R ⟨h, g, d, t, os⟩ := by
  have F := PySem.F.excBase_Exception
  have hends := F.ends
  have hcB := hasE (C := C)
  have hcA : (Value.ref C :: fMro).contains (.type "AttributeError") = false := by rw [List.contains_cons, List.contains_cons]; rfl
  have hcN : (Value.ref C :: fMro).contains (.type "NameError") = false := by rw [List.contains_cons, List.contains_cons]; rfl
  refine codeAny_builtinAt F.entry ?_
  unfold Builtin.«BaseException.__new__»
  refine PySem.wpAt_bind ?_
  show PySem.wpAt _ _ _ (stack >>= _) _ _ _
  refine PySem.wpAt_bind (PySem.wpAt_stack fun p below => PySem.wpAt_of_wpAny ?_)
  wp_walk
  refine PySem.wpAt_of_wpAny ?_
  rw [F.owner]
  repeat (first | with_reducible refine wpAny_madeHere_exc F.canon hC ?_ | with_reducible refine wpAny_loadPart_at hC ?_ | (with_reducible refine wpAny_isSubtype_exc hC ?_; first | rw [hcB] | rw [hcA] | rw [hcN]) | wp_step)
  show R _ _
  rw [Heap.size_push]
  exact hq
theorem type_call {rest : List Value} {Q : Fin → Shared → Prop} (K : Cls h C)
    (hq : ∀ h' e, Heap.MadeExcOf h h' e (.ref C) rest → h.objs.size ≤ h'.objs.size →
      wpAny (model prog w) A (call (.ref 29) (.ref e :: rest)) (fun r s' => r = .none ∧ Q (.done (.ret (.ref e))) s') E ⟨h', g, d, t, os⟩) (hrest : rest.length ≤ sizeLine := by size_fits) :
    wpAny (model prog w) A (Builtin.«type.__call__» ⟨.ref C :: rest, []⟩) Q E ⟨h, g, d, t, os⟩ := by
  have F := PySem.F.excBase_Exception
  obtain ⟨⟨N, nm, q, bs, sn, sub, ab, col, dd, k0, k1, k2, k3, k5, mN, hC, hn, h3, h4⟩, _, oI, hfI, hfc⟩ := id K
  repeat (first | with_reducible refine wpAny_loadPart_at hC ?_ | with_reducible refine wpAny_madeBy_exc hC ?_ | wp_step)
  refine codeAny_call_builtin_code (Code.quiet_builtin _ F.quiet) (check_new hC ?_)
  refine code_new hC ?_ hrest
  show wpAny _ _ _ _ _ _
  have up : ∀ b o, h.get? b = some o → ((h.push { cls := .type "tuple", data := .seq rest.toArray }).push { cls := .ref C, data := .fields #[.ref h.objs.size, .none, .none, .none, .bool false, .none] }).get? b = some o :=
    fun b o e => Heap.get?_push_of_some _ (Heap.get?_push_of_some _ e)
  have hC₁ := up _ _ hC
  have hfI₁ := up _ _ hfI
  have K₁ := K.keeps up
  have hget : ((h.push { cls := .type "tuple", data := .seq rest.toArray }).push
      { cls := .ref C, data := .fields #[.ref h.objs.size, .none, .none, .none, .bool false, .none] }).get? (h.objs.size + 1) = some
      { cls := .ref C, data := .fields #[.ref h.objs.size, .none, .none, .none, .bool false, .none] } := by heap_get
  have hcC : (Value.ref C :: fMro).contains (.ref C) = true := by simp
  unfold isInstance
  repeat (first | with_reducible refine wpAny_loadPart_at hget ?_ | (with_reducible refine wpAny_isSubtype_exc hC₁ ?_; rw [hcC]) | wp_step)
  show wpAny _ _ (typeLookup (.ref C) _) _ _ _
  refine lookup_init K₁ ?_
  refine wpAny_holding (wpAny_bind ?_)
  unfold bindSpecial
  refine wpAny_bind (wpAny_typeOf (T := "function") ⟨_, hfI₁, hfc⟩ ?_)
  rw [if_pos (by decide)]
  refine wpAny_pure (wpAny_bind (wpAny_mono (hq _ (h.objs.size + 1) ⟨up, Heap.get?_none_of_le (Nat.le_succ _), h.objs.size, hget, Heap.get?_none_of_le (Nat.le_refl _), ?_⟩ (by rw [Heap.size_push, Heap.size_push]; lia)) (fun r s' hr => ?_) fun _ _ x => x))
  · exact Heap.get?_push_of_some _ (Heap.get?_push_at rfl rfl)
  · obtain ⟨rfl, hQ⟩ := hr
    wp_walk
    exact hQ
theorem call_cls {rest : List Value} {Q : Value → Shared → Prop} (K : Cls h C)
    (hq : ∀ h' e, Heap.MadeExcOf h h' e (.ref C) rest → h.objs.size ≤ h'.objs.size →
      wpAny (model prog w) (A.under (.builtin "type.__call__" ⟨.ref C :: rest, []⟩)) (call (.ref 29) (.ref e :: rest)) (fun r s' => r = .none ∧ Q (.ref e) s') E ⟨h', g, d, t, os⟩) (hrest : rest.length ≤ sizeLine := by size_fits) :
    wpAny (model prog w) A (call (.ref C) rest) Q E ⟨h, g, d, t, os⟩ := by
  obtain ⟨⟨N, nm, q, bs, sn, sub, ab, col, dd, k0, k1, k2, k3, k5, mN, hC, hn, h3, h4⟩, _⟩ := id K
  have f1 := tc_lookup
  have f2 := tc_bind (.ref C)
  have hT : (⟨h, g, d, t, os⟩ : Shared).TypeIs (.ref C) "type" := ⟨_, hC, rfl⟩
  refine wpAny_call (codeAny_of_tree ?_)
  show wpAny _ _ (callAny (.ref C) _) _ _ _
  repeat (any_goals (first | assumption | with_reducible refine wpAny_loadPart_at hC ?_ | wp_step))
  refine ⟨rfl, ?_⟩
  refine codeAny_call_builtin_at (Code.quiet_builtin _ (by decide +kernel)) entry_typeCall (wpAny_check_type_call_sub hC (type_call K (fun h' e hm hz => ?_) hrest))
  exact hq h' e hm hz
end
theorem ns_val_of {K : Frag} {h : Heap} {N : Addr} {m : Str → Option Value} {n : Str} {v : Value} (X : K.In h) (G : h.Ns N m) (e : nsIn K N n = some (some v)) : m n = some v := by
  obtain ⟨o, es, ep, ho, hd, _, hf⟩ := G
  unfold nsIn at e
  split at e
  · rename_i c d es' n' sl q
    have hq := X _ _ q
    rw [ho] at hq
    cases hq
    cases hd
    split at e
    · rename_i en he
      cases e
      rw [← hf]
      unfold nsFind findBy
      rw [← Array.find?_toList, he]
      rfl
    · split at e <;> cases e
  · cases e
theorem all_none {K : Frag} {N : Addr} {l : List Str} (q : l.all (fun x => nsIn K N x == some none) = true) {n : Str} (hn : n ∈ l) : nsIn K N n = some none := beq_iff_eq.mp (List.all_eq_true.mp q n hn)
theorem cls_mk {K : Frag} {h : Heap} {C N : Addr} {nm q : Str} {bs : List Value} {sn : List Str} {sub : List Value} {ab : Bool} {col : Option Bool} {dd : Option Addr} {k0 k1 k2 k3 k5 : Option Value} {c0 : Value} {dd' : Option Addr} {cd : _} {sl : Array (Option Value)} {o : Obj} (X : K.In h)
    (e1 : K.lookup C = some (excClassObj nm q C N bs fMro true sn sub ab col dd k0 k1 k2 k3 k5 "Exception.__new__")) (hok : nsOkIn K N = true) (hni : nsIn K N "__init__" = some none) (hqu : quiet.all (fun x => nsIn K N x == some none) = true)
    (e2 : K.lookup 39 = some { cls := c0, dict := dd', data := .cls cd, slots := sl }) (hok2 : nsOkIn K cd.ns = true) (hin : nsIn K cd.ns "__init__" = some (some (.ref 29))) (hqu2 : quiet.all (fun x => nsIn K cd.ns x == some none) = true)
    (e3 : K.lookup 29 = some o) (hc : o.cls = .type "function") : Cls h C :=
  ⟨⟨N, nm, q, bs, sn, sub, ab, col, dd, k0, k1, k2, k3, k5, _, X _ _ e1, .of_isNs (isNs_of_in X hok), nsMap_none_of_in X hok hni, fun _ hn => nsMap_none_of_in X hok (all_none hqu hn)⟩,
    ⟨c0, dd', cd, sl, _, X _ _ e2, .of_isNs (isNs_of_in X hok2), ns_val_of X (.of_isNs (isNs_of_in X hok2)) hin, fun _ hn => nsMap_none_of_in X hok2 (all_none hqu2 hn)⟩, o, X _ _ e3, hc⟩
theorem cls_of {w : World} {h : Heap} (X : (hd.heap_39 w.params).In h) : Cls h 52 ∧ Cls h 64 :=
  ⟨cls_mk X (by k_is) (by kernel_rfl) (by kernel_rfl) (by kernel_rfl) (by k_is) (by kernel_rfl) (by kernel_rfl) (by kernel_rfl) (by k_is) (by rfl), cls_mk X (by k_is) (by kernel_rfl) (by kernel_rfl) (by kernel_rfl) (by k_is) (by kernel_rfl) (by kernel_rfl) (by kernel_rfl) (by k_is) (by rfl)⟩
end FX

namespace FX
open Builtin Builtin.ObjectAttr
section
variable {prog : Program} {w : World} {A : Around} {E : Value → Shared → Prop} {h : Heap} {g : Array GenState} {d : Drawn} {t : Nat} {os : OsState} {C x : Addr} {mA : Str → Option Value} {name : Str} {v : Value}
theorem check_sa {M : Model} {o : Obj} {nameV : Value} {Q : Unit → Shared → Prop} (K : Cls h C) (hx : h.get? x = some o) (hc : o.cls = .ref C) (hq : Q () ⟨h, g, d, t, os⟩) :
    wpAny M A (checkBuiltinCall "object.__setattr__" ⟨[.ref x, nameV, v], []⟩) Q E ⟨h, g, d, t, os⟩ := by
  have SF := PySem.F.store_Exception
  obtain ⟨⟨N, nm, q, bs, sn, sub, ab, col, dd, k0, k1, k2, k3, k5, mN, hC, _⟩, _⟩ := K
  have hcB : (Value.ref C :: fMro).contains (.type "object") = true := by rw [List.contains_cons, List.contains_cons]; rfl
  have ha := SF.args (.ref x) nameV v
  simp only [checkBuiltinCall, SF.kind, SF.split]
  refine wpAny_bind ?_
  · unfold isInstance
    repeat (first | (with_reducible refine wpAny_loadPart_at hx ?_; rw [hc]) | (with_reducible refine wpAny_isSubtype_exc hC ?_; rw [hcB]) | wp_step)
    exact hq
theorem store_entry {tk : Tok} {Q : Fin → Shared → Prop} {ns : List Str} (K : Cls h C) (hna : name ∈ quiet)
    (hB : typeLookup (.type "Exception") name = pure none) (I : h.Inst x C mA)
    (hq : ∀ h' tk', h'.Inst x C (fun y => if y = name then some v else mA y) →
      (∀ b o, b ≠ x → (∀ o₀ dx, h.get? x = some o₀ → o₀.dict = some dx → b ≠ dx) → h.get? b = some o → h'.get? b = some o) →
      (∀ o₀, h.get? x = some o₀ → ∃ o₁, h'.get? x = some o₁ ∧ o₁.cls = o₀.cls ∧ o₁.data = o₀.data ∧ ∀ dx, o₁.dict = some dx → o₀.dict = some dx ∨ h.get? dx = none) → Q (.done (.ret .none)) ⟨h', g, d, tk', os⟩) (hw : Within mA ns) (hsz : ns.length ≤ sizeLine := by size_fits) :
    wpAny (model prog w) A (Builtin.«object.__setattr__» ⟨[.ref x, .str name tk, v], []⟩) Q E ⟨h, g, d, t, os⟩ := by
  have SF := PySem.F.store_Exception
  obtain ⟨⟨N, nm, q, bs, sn, sub, ab, col, dd, k0, k1, k2, k3, k5, mN, hC, _⟩, _⟩ := id K
  obtain ⟨o, hx, hc, hnc, hd⟩ := I
  have hpass := SF.passes (.ref x)
  unfold Builtin.«object.__setattr__»
  repeat (first | rw [refuse_eq] | (rw [refuseLoop_ref, refuseLoop_ref, hpass]) | (with_reducible refine wpAny_loadPart_at hx ?_; rw [hc]) | with_reducible refine wpAny_mroOf_exc hC ?_ | with_reducible refine lookup_quiet K hna hB ?_ | wp_step)
  rcases hd with ⟨hdn, hmA⟩ | ⟨dx, hdx, hne, hns⟩
  · rw [hdn, if_neg (by simp [typeHasDict])]
    split
    · rename_i hcd
      cases hcd
    split
    · rename_i c hcd
      exact absurd hcd (hnc c)
    · have hx₁ : (h.push { cls := .type "dict", data := .dict #[] }).get? x = some o := Heap.get?_push_of_some _ hx
      have hxs : x ≠ h.objs.size := Nat.ne_of_lt (Heap.lt_size hx)
      refine wpAny_bind (wpAny_alloc' ?_)
      refine wpAny_bind (wpAny_update' hx₁ ?_)
      refine wpAny_pure ?_
      have hgd : ((h.push { cls := .type "dict", data := .dict #[] }).update x fun o => { cls := o.cls, dict := some h.objs.size, data := o.data, slots := o.slots }).get? h.objs.size
          = some { cls := .type "dict", data := .dict #[] } :=
        (Heap.get?_update_ne _ _ _ _ hxs.symm).trans (Heap.get?_push_at rfl rfl)
      have hnd : ((h.push { cls := .type "dict", data := .dict #[] }).update x fun o => { cls := o.cls, dict := some h.objs.size, data := o.data, slots := o.slots }).Ns h.objs.size (fun _ => none) :=
        ⟨_, #[], _, hgd, rfl, fun e he => absurd he (by simp), fun _ => rfl⟩
      show wpAny _ _ (storeInDict h.objs.size (.str name tk) name v) _ _ _
      unfold storeInDict newKeyGuard
      refine wpAny_bind (wpAny_pure (wpAny_bind (wpAny_nsSet1 (Heap.Ns1.of_empty hnd) fun h' hn' hs => ?_)))
      obtain ⟨oD, esD, epD, hoD, hdD, hcD⟩ := hn'.count (Within.cons name v Within.nil)
      refine wpAny_bind (wpAny_lookBehind hoD (by rw [hdD]; exact pastItsLine_dict (Nat.le_trans hcD (by rw [List.length_cons, List.length_nil, sizeLine_eq]; lia))) ?_)
      wp_walk
      have hx' : h'.get? x = some { cls := o.cls, dict := some h.objs.size, data := o.data, slots := o.slots } := ?_
      refine hq h' _ ⟨{ cls := o.cls, dict := some h.objs.size, data := o.data, slots := o.slots }, hx', hc, hnc, .inr ⟨h.objs.size, rfl, hxs.symm, ?_⟩⟩ (fun b ob hbx _ hb => ?_)
        (fun o₀ h₀ => by obtain rfl : o = o₀ := Option.some.inj (hx.symm.trans h₀); exact ⟨_, hx', rfl, rfl, fun dx e => by cases e; exact .inr (Heap.get?_none_of_le (Nat.le_refl _))⟩)
      · obtain ⟨o', es, ep, e1, e2, e3, eu, e4⟩ := hn'
        exact ⟨o', es, ep, e1, e2, e3, eu, fun y => by rw [e4 y]; by_cases hy : y = name <;> simp [hy, hmA]⟩
      · exact (hs.2 b (Nat.ne_of_lt (Heap.lt_size hb))).trans ((Heap.get?_update_ne _ _ _ _ hbx).trans (Heap.get?_push_of_some _ hb))
      · refine (hs.2 x hxs).trans (Heap.get?_update_self _ hx₁ ?_)
        have hfr := (Heap.get?_some_iff.mp hx).2
        obtain ⟨oc, od, odt, osl⟩ := o
        cases odt <;> first | rfl | exact hfr
  · rw [hdx]
    refine wpAny_pure ?_
    show wpAny _ _ (storeInDict dx (.str name tk) name v) _ _ _
    unfold storeInDict newKeyGuard
    refine wpAny_bind (wpAny_pure (wpAny_bind (wpAny_nsSet1 hns fun h' hn' hs => ?_)))
    obtain ⟨oD, esD, epD, hoD, hdD, hcD⟩ := hn'.count (Within.cons name v hw)
    refine wpAny_bind (wpAny_lookBehind hoD (by rw [hdD]; exact pastItsLine_dict (Nat.le_trans hcD (by rw [List.length_cons]; lia))) ?_)
    wp_walk
    refine hq h' _ ⟨o, (hs.2 x hne.symm).trans hx, hc, hnc, .inr ⟨dx, hdx, hne, hn'⟩⟩ (fun b ob _ hbd hb => ?_)
      (fun o₀ h₀ => ⟨o₀, (hs.2 x hne.symm).trans h₀, rfl, rfl, fun _ e => .inl e⟩)
    exact (hs.2 b (hbd o dx hx hdx)).trans hb
/-- x.name = v, x of a fault class -/
theorem store_attr {Q : Unit → Shared → Prop} {ns : List Str} (K : Cls h C) (hna : name ∈ quiet)
    (hB : typeLookup (.type "Exception") name = pure none) (I : h.Inst x C mA)
    (hq : ∀ h' tk', h'.Inst x C (fun y => if y = name then some v else mA y) →
      (∀ b o, b ≠ x → (∀ o₀ dx, h.get? x = some o₀ → o₀.dict = some dx → b ≠ dx) → h.get? b = some o → h'.get? b = some o) →
      (∀ o₀, h.get? x = some o₀ → ∃ o₁, h'.get? x = some o₁ ∧ o₁.cls = o₀.cls ∧ o₁.data = o₀.data ∧ ∀ dx, o₁.dict = some dx → o₀.dict = some dx ∨ h.get? dx = none) → Q () ⟨h', g, d, tk', os⟩) (hw : Within mA ns) (hsz : ns.length ≤ sizeLine := by size_fits) :
    wpAny (model prog w) A (setAttr (.ref x) name v) Q E ⟨h, g, d, t, os⟩ := by
  have SF := PySem.F.store_Exception
  obtain ⟨o, hx, hc, _⟩ := id I
  have f3 := SF.slot.bind (.ref x)
  have hm : ("__setattr__" : Str) ∈ quiet := .head _
  unfold setAttr callSpecial? specialOf
  repeat (any_goals (first | assumption | (with_reducible refine wpAny_loadPart_at hx ?_; rw [hc]) | with_reducible refine lookup_quiet K hm SF.slot.lookup ?_ | wp_step))
  refine codeAny_call_builtin SF.slot.plain SF.entry (check_sa K hx hc (store_entry K hna hB I (fun h' tk' I' hk hsame => ?_) hw hsz))
  repeat (any_goals (first | assumption | wp_step))
  exact hq h' tk' I' hk hsame
end
end FX

namespace FX
open Builtin Builtin.ObjectAttr
section
variable {prog : Program} {w : World} {A : Around} {E : Value → Shared → Prop} {h : Heap} {g : Array GenState} {d : Drawn} {t : Nat} {os : OsState} {C x : Addr} {mA : Str → Option Value} {name : Str} {v : Value}
theorem check_ga {M : Model} {o : Obj} {nameV : Value} {Q : Unit → Shared → Prop} (K : Cls h C) (hx : h.get? x = some o) (hc : o.cls = .ref C) (hq : Q () ⟨h, g, d, t, os⟩) :
    wpAny M A (checkBuiltinCall "BaseException.__getattribute__" ⟨[.ref x, nameV], []⟩) Q E ⟨h, g, d, t, os⟩ := by
  obtain ⟨⟨N, nm, q, bs, sn, sub, ab, col, dd, k0, k1, k2, k3, k5, mN, hC, _⟩, _⟩ := K
  have hk : builtinKind "BaseException.__getattribute__" = some .slot := by decide +kernel
  have hsplit : splitId "BaseException.__getattribute__" = some ("BaseException", "__getattribute__") := by decide +kernel
  have hcB : (Value.ref C :: fMro).contains (.type "BaseException") = true := by rw [List.contains_cons, List.contains_cons]; rfl
  have ha := F.args_bexc_ga (.ref x) nameV
  simp only [checkBuiltinCall, hk, hsplit]
  refine wpAny_bind ?_
  · unfold isInstance
    repeat (first | (with_reducible refine wpAny_loadPart_at hx ?_; rw [hc]) | (with_reducible refine wpAny_isSubtype_exc hC ?_; rw [hcB]) | wp_step)
    exact hq
theorem load_entry {tk : Tok} {Q : Fin → Shared → Prop} (K : Cls h C) (hna : name ∈ quiet) (hB : typeLookup (.type "Exception") name = pure none) (I : h.Inst x C mA) (hv : mA name = some v)
    (hq : Q (.done (.ret v)) ⟨h, g, d, t, os⟩) :
    wpAny (model prog w) A (Builtin.«object.__getattribute__» ⟨[.ref x, .str name tk], []⟩) Q E ⟨h, g, d, t, os⟩ := by
  obtain ⟨⟨N, nm, q, bs, sn, sub, ab, col, dd, k0, k1, k2, k3, k5, mN, hC, _⟩, _⟩ := id K
  obtain ⟨o, hx, hc, hnc, hd⟩ := I
  rcases hd with ⟨_, hmA⟩ | ⟨dx, hdx, hne, hns⟩
  · rw [hmA name] at hv; cases hv
  unfold Builtin.«object.__getattribute__»
  repeat (any_goals (first | assumption | (with_reducible refine wpAny_loadPart_at hx ?_; rw [hc]) | with_reducible refine lookup_quiet K hna hB ?_ | wp_step))
  split
  · rename_i c hcd
    exact absurd hcd (hnc c)
  unfold instanceDict
  repeat (any_goals (first | (with_reducible refine wpAny_loadPart_at hx ?_; rw [hc]) | with_reducible refine wpAny_loadPart_at hC ?_ | wp_step))
  rw [hdx]
  repeat (any_goals (first | (with_reducible refine wpAny_nsGet hns.ns ?_; rw [hv]) | wp_step))
  exact hq
/-- x.name read, x of a fault class -/
theorem load_attr {expr : Bool} {Q : Value → Shared → Prop} (K : Cls h C) (hna : name ∈ quiet) (hB : typeLookup (.type "Exception") name = pure none) (I : h.Inst x C mA) (hv : mA name = some v) (hh : handedOut v = pure v)
    (hq : Q v ⟨h, g, d, t + 1, os⟩) : wpAny (model prog w) A (getAttr (.ref x) name expr) Q E ⟨h, g, d, t, os⟩ := by
  have FB := PySem.F.attrBase_Exception
  obtain ⟨o, hx, hc, _⟩ := id I
  have f3 := FB.ga.bind (.ref x)
  have hx2 : (Value.builtin "BaseException.__getattribute__" == Value.builtin "object.__getattribute__") = false := by decide +kernel
  have hx0 : (expr && onTheHeap (Value.builtin "BaseException.__getattribute__")) = false := by cases expr <;> rfl
  have hx1 : (onTheHeap (Value.ref C) && Value.builtin "BaseException.__getattribute__" == Value.builtin "object.__getattribute__") = false := by rw [hx2]; rfl
  have hm1 : ("__getattribute__" : Str) ∈ quiet := .tail _ (.head _)
  have hm2 : ("__getattr__" : Str) ∈ quiet := .tail _ (.tail _ (.head _))
  unfold getAttr getAttrBy
  repeat (any_goals (first | assumption | (with_reducible refine wpAny_loadPart_at hx ?_; rw [hc]) | with_reducible refine lookup_quiet K hm1 FB.ga.lookup ?_ | with_reducible refine lookup_quiet K hm2 FB.noGetattr ?_ | wp_step))
  refine codeAny_call_builtin FB.ga.plain PySem.F.entry_bexc_ga (check_ga K hx hc (load_entry K hna hB I hv ?_))
  show wpAny _ _ (handedOut v) _ _ _
  rw [hh]
  exact wpAny_pure hq
end
end FX

/-! trees that keep every object's dict -/
namespace FX
/-- a change that keeps dict and context -/
noncomputable def Soft (f : Obj → Obj) : Prop := ∀ o, (f o).dict = o.dict ∧ (o.isFreed = false → (f o).isFreed = false) ∧ ∀ vs, o.data = .fields vs → ∃ vs', (f o).data = .fields vs' ∧ vs'[2]? = vs[2]?
noncomputable def KD {α : Type} : Sem α → Prop
  | .pure _ => True
  | .raise _ => True
  | .unsupported _ => True
  | .finish _ => True
  | .rule _ k => KD (k ())
  | .at _ k => KD (k ())
  | .load _ _ k => ∀ o, KD (k o)
  | .update _ _ f k => Soft f ∧ KD (k ())
  | .alloc _ k => ∀ a, KD (k a)
  | .loadIfAlive _ k => ∀ o, KD (k o)
  | .point _ k => KD (k ())
  | .register _ _ => True
  | .fresh k => ∀ t, KD (k t)
  | .ask k => ∀ x, KD (k x)
  | .choose _ _ k => ∀ n, KD (k n)
  | .os _ _ k => ∀ r, KD (k r)
  | .call _ _ _ _ _ => False
  | .handled _ k => ∀ v, KD (k v)
  | .newGen _ k => ∀ n, KD (k n)
  | .genState _ k => ∀ v, KD (k v)
  | .resume _ _ _ _ => False
  | .yield _ _ _ _ => True
  | .stack k => ∀ l, KD (k l)
  | .fork _ _ => True
  | .thread k => ∀ n, KD (k n)
  | .await _ _ _ _ _ => True
/-- every object that was there is there, with its dict -/
noncomputable def KeepD (h h' : Heap) : Prop := ∀ b o, h.get? b = some o → ∃ o', h'.get? b = some o' ∧ o'.dict = o.dict ∧ ∀ vs, o.data = .fields vs → ∃ vs', o'.data = .fields vs' ∧ vs'[2]? = vs[2]?
theorem KeepD.refl (h : Heap) : KeepD h h := fun _ o e => ⟨o, e, rfl, fun vs q => ⟨vs, q, rfl⟩⟩
theorem KeepD.of_keeps {h h' : Heap} (k : ∀ b o, h.get? b = some o → h'.get? b = some o) : KeepD h h' := fun b o e => ⟨o, k b o e, rfl, fun vs q => ⟨vs, q, rfl⟩⟩
theorem KeepD.trans {h₁ h₂ h₃ : Heap} (x : KeepD h₁ h₂) (y : KeepD h₂ h₃) : KeepD h₁ h₃ := fun b o e =>
  let ⟨_, e₁, d₁, f₁⟩ := x b o e; let ⟨o₂, e₂, d₂, f₂⟩ := y b _ e₁
  ⟨o₂, e₂, d₂.trans d₁, fun vs q => let ⟨v₁, q₁, g₁⟩ := f₁ vs q; let ⟨v₂, q₂, g₂⟩ := f₂ v₁ q₁; ⟨v₂, q₂, g₂.trans g₁⟩⟩
theorem KeepD.update {h : Heap} {a : Addr} {f : Obj → Obj} (hf : Soft f) : KeepD h (h.update a f) := fun b o e => by
  by_cases q : b = a
  · subst q
    exact ⟨f o, Heap.get?_update_self _ e ((hf o).2.1 (Heap.get?_some_iff.mp e).2), (hf o).1, (hf o).2.2⟩
  · exact ⟨o, (Heap.get?_update_other _ _ (Ne.symm q)).trans e, rfl, fun vs q => ⟨vs, q, rfl⟩⟩
theorem wp_kd {α : Type} {M : Model} {Γ : PySem.Ctx} {t : Sem α} {Q : α → Pos → Shared → Prop} {E : Value → Pos → Shared → Prop} (hk : KD t) (p : Pos) (s : Shared) (h : Sem.wp M Γ t Q E p s) :
    Sem.wp M Γ t (fun a p' s' => Q a p' s' ∧ KeepD s.heap s'.heap) (fun e p' s' => E e p' s' ∧ KeepD s.heap s'.heap) p s := by
  induction t generalizing p s with
  | pure a => exact ⟨h, KeepD.refl _⟩
  | raise e => exact ⟨h, KeepD.refl _⟩
  | unsupported | finish | yield | fork | await | register => exact h
  | rule _ k ih => exact ih () hk p s h
  | «at» p' k ih => exact ih () hk p' s h
  | point _ k ih => exact ih () hk p s h
  | load a _ k ih => obtain ⟨o, ho, h⟩ := h; exact ⟨o, ho, ih o (hk o) p s h⟩
  | loadIfAlive a k ih => exact ih _ (hk _) p s h
  | ask k ih => exact ih _ (hk _) p s h
  | handled o k ih => exact ih _ (hk _) p s h
  | stack k ih => exact ih _ (hk _) p s h
  | thread k ih => exact ih _ (hk _) p s h
  | fresh k ih => exact ih _ (hk _) p { s with toks := s.toks + 1 } h
  | os q l k ih => exact ih _ (hk _) p { s with os := (Os.step s.os q).1 } h
  | newGen c k ih => exact ih _ (hk _) p { s with gens := s.gens.push (.fresh c) } h
  | choose src n k ih => exact ⟨h.1, ih _ (hk _) p { s with drawn := s.drawn.bump src } h.2⟩
  | genState g k ih => obtain ⟨st, hs, h⟩ := h; exact ⟨st, hs, ih _ (hk _) p s h⟩
  | alloc o k ih =>
    have hp : KeepD s.heap (s.heap.push o) := KeepD.of_keeps fun b ob e => Heap.get?_push_of_some _ e
    exact Sem.wp_mono M Γ _ (fun _ _ _ x => ⟨x.1, hp.trans x.2⟩) (fun _ _ _ x => ⟨x.1, hp.trans x.2⟩) _ _ (ih _ (hk _) p { s with heap := s.heap.push o } h)
  | update a _ f k ih =>
    have hp : KeepD s.heap (s.heap.update a f) := KeepD.update hk.1
    exact ⟨h.1, Sem.wp_mono M Γ _ (fun _ _ _ x => ⟨x.1, hp.trans x.2⟩) (fun _ _ _ x => ⟨x.1, hp.trans x.2⟩) _ _ (ih _ hk.2 p { s with heap := s.heap.update a f } h.2)⟩
  | call => exact hk.elim
  | resume => exact hk.elim
theorem wpAny_kd {α : Type} {M : Model} {A : Around} {t : Sem α} {Q : α → Shared → Prop} {E : Value → Shared → Prop} {s : Shared} (hk : KD t) (h : wpAny M A t Q E s) :
    wpAny M A t (fun a s' => Q a s' ∧ KeepD s.heap s'.heap) (fun e s' => E e s' ∧ KeepD s.heap s'.heap) s := fun Γ p hΓ => wp_kd hk p s (h Γ p hΓ)
theorem KD.bind {α β : Type} {m : Sem α} {f : α → Sem β} (hm : KD m) (hf : ∀ a, KD (f a)) : KD (m >>= f) := by
  show KD (m.bind f)
  induction m with
  | pure a => exact hf a
  | raise | unsupported | finish | yield | fork | await | register => trivial
  | rule _ k ih | «at» _ k ih | point _ k ih => exact ih () hm
  | load _ _ k ih | loadIfAlive _ k ih | ask k ih | handled _ k ih | stack k ih | thread k ih | fresh k ih | os _ _ k ih | newGen _ k ih | choose _ _ k ih | genState _ k ih | alloc _ k ih => exact fun x => ih x (hm x)
  | update a _ g k ih => exact ⟨hm.1, ih () hm.2⟩
  | call => exact hm.elim
  | resume => exact hm.elim
theorem KD.pure {α : Type} {a : α} : KD (Pure.pure a : Sem α) := trivial
theorem KD.un {α : Type} {w : String} : KD (unsupported w : Sem α) := trivial
theorem KD.throw {α : Type} {e : Value} : KD (MonadExcept.throw e : Sem α) := trivial
theorem KD.load {a : Addr} : KD (PySem.load a) := fun _ => trivial
theorem KD.ask : KD PySem.ask := fun _ => trivial
theorem KD.stack : KD PySem.stack := fun _ => trivial
theorem KD.alloc {o : Obj} : KD (PySem.alloc o) := fun _ => trivial
theorem KD.register {a : Addr} : KD (PySem.register a) := trivial
theorem KD.update {a : Addr} {f : Obj → Obj} (hf : Soft f) : KD (PySem.update a f) := ⟨hf, trivial⟩
theorem KD.fieldsOf {v : Value} : KD (PySem.fieldsOf v) := by
  unfold PySem.fieldsOf
  split
  · exact KD.bind KD.load fun o => by split <;> first | exact KD.pure | exact KD.un
  · exact KD.un
theorem KD.field {v : Value} {i : Nat} : KD (PySem.field v i) := by
  unfold PySem.field
  exact KD.bind KD.fieldsOf fun vs => by split <;> first | exact KD.pure | exact KD.un
theorem mapFields_kd {i : Nat} {x : Value} (hi : i ≠ 2) : Soft (Obj.mapFields (·.setIfInBounds i x)) := fun o => by
  obtain ⟨c, d, dt, sl⟩ := o
  refine ⟨by cases dt <;> rfl, by cases dt <;> first | exact fun q => q | exact fun _ => rfl, fun vs q => ?_⟩
  cases q
  exact ⟨_, rfl, Array.getElem?_setIfInBounds_ne hi⟩
theorem slots_kd (g : Obj → Array (Option Value)) : Soft (fun o => { o with slots := g o }) := fun o => by
  refine ⟨rfl, fun q => ?_, fun vs q => ⟨vs, q, rfl⟩⟩
  obtain ⟨c, d, dt, sl⟩ := o
  cases dt <;> first | rfl | exact q
theorem KD.setField {v : Value} {i : Nat} {x : Value} (hi : i ≠ 2 := by decide) : KD (PySem.setField v i x) := by
  unfold PySem.setField
  split
  · unfold updateField
    exact KD.bind KD.load fun o => by
      split
      · split
        · exact KD.update (mapFields_kd hi)
        · exact KD.un
      · exact KD.un
  · exact KD.un
theorem KD.setFlight {e : Value} {fr : Option Addr} : KD (PySem.setFlight e fr) := by
  unfold PySem.setFlight
  exact KD.bind KD.field fun tb => by
    split
    · exact KD.setField
    · exact KD.pure
theorem KD.newFields {ty : String} {vs : List Value} : KD (PySem.newFields ty vs) := by
  unfold PySem.newFields newObj newObjAsIs
  dsimp only
  split
  · first | exact KD.bind KD.un fun _ => KD.bind KD.alloc fun _ => KD.pure | exact KD.un
  · first | exact KD.bind KD.pure fun _ => KD.bind KD.alloc fun _ => KD.pure | exact KD.bind KD.alloc fun _ => KD.pure
theorem KD.readyFrames {l : List Env} : KD (PySem.readyFrames l) := by
  induction l with
  | nil => unfold PySem.readyFrames; exact KD.pure
  | cons env outer ih =>
    unfold PySem.readyFrames
    split
    · refine KD.bind KD.load fun o => ?_
      split
      · exact KD.pure
      · refine KD.bind ?_ fun im => KD.bind ?_ fun back => KD.bind (KD.update (slots_kd _)) fun _ => ih
        · unfold behindIsImport
          split
          · exact KD.pure
          · split
            · exact KD.pure
            · exact KD.bind KD.field fun _ => KD.pure
        · unfold keptBack
          split
          · split
            · exact KD.pure
            · unfold underTheClaimsCaller
              exact KD.bind (KD.bind KD.stack fun _ => KD.pure) fun _ => KD.pure
          · exact KD.pure
    · exact KD.un
theorem KD.frameOf {env : Env} : KD (PySem.frameOf env) := by
  unfold PySem.frameOf frameEnvs
  refine KD.bind (KD.bind KD.stack fun _ => KD.pure) fun es => KD.bind ?_ fun v => by split <;> first | exact KD.pure | exact KD.un
  unfold frameObject
  split
  · exact KD.pure
  · exact KD.bind KD.readyFrames fun _ => KD.pure
theorem KD.entryPlaceOf {f : Addr} {b : Bool} : KD (PySem.entryPlaceOf f b) := by
  unfold PySem.entryPlaceOf
  exact KD.bind KD.stack fun _ => by split <;> exact KD.pure
theorem KD.noteFrame {e : Value} {env : Env} : KD (PySem.noteFrame e env) := by
  unfold PySem.noteFrame
  split
  · refine KD.bind KD.field fun head => ?_
    have tail : ∀ f : Addr, KD (do PySem.setField e 1 (← EntryCells.newEntry head (← PySem.frameOf env) .none (rawInt f) .none (← PySem.entryPlaceOf f (head != .none)))) := fun f =>
      KD.bind KD.frameOf fun _ => KD.bind KD.entryPlaceOf fun _ => KD.bind (by unfold EntryCells.newEntry; exact KD.newFields) fun _ => KD.setField
    dsimp only
    split
    · refine KD.bind KD.field fun _ => ?_
      split
      · exact KD.pure
      · exact KD.bind KD.setField fun _ => tail _
    · exact tail _
  · exact KD.un
theorem KD.leaving {env : Env} {e : Value} : KD (PySem.leaving env e) := by
  unfold PySem.leaving
  exact KD.bind KD.noteFrame fun _ => KD.setFlight
end FX

/-! an exception of the text in flight, with its `at` -/
namespace FX
noncomputable def HasAt (e : Addr) (k : Int) (h : Heap) : Prop := ∃ oe dx mA u, h.get? e = some oe ∧ oe.dict = some dx ∧ dx ≠ e ∧ h.Ns1 dx mA ∧ mA "at" = some (.int k u)
theorem ns1_on {h h' : Heap} {a : Addr} {m : Str → Option Value} (x : h.UpToSlots h') (hn : h.Ns1 a m) : h'.Ns1 a m := by
  obtain ⟨o, es, ep, ho, hd, r⟩ := hn
  obtain ⟨sl, hs⟩ := x a o ho fun vs q => by rw [hd] at q; cases q
  exact ⟨_, es, ep, hs, hd, r⟩
theorem HasAt.on {e : Addr} {k : Int} {h h' : Heap} (x : HasAt e k h) (u : h.UpToSlots h') (d : KeepD h h') : HasAt e k h' := by
  obtain ⟨oe, dx, mA, t, he, hd, hne, hn, ha⟩ := x
  obtain ⟨o', he', hd', _⟩ := d e oe he
  exact ⟨o', dx, mA, t, he', hd'.trans hd, hne, ns1_on u hn, ha⟩
/-- no context -/
noncomputable def Bare (e : Addr) (h : Heap) : Prop := ∃ oe vs, h.get? e = some oe ∧ oe.data = .fields vs ∧ vs[2]? = some .none
theorem Bare.on {e : Addr} {h h' : Heap} (x : Bare e h) (d : KeepD h h') : Bare e h' := by
  obtain ⟨oe, vs, he, hd, h2⟩ := x
  obtain ⟨o', he', _, hf⟩ := d e oe he
  obtain ⟨vs', hd', h2'⟩ := hf vs hd
  exact ⟨o', vs', he', hd', h2'.trans h2⟩
/-- in flight: class C, its `at` is k; the objects of h₀ that are no records stand up to their slots -/
structure Fault (base : Heap) (outer : List Env) (C : Addr) (k : Int) (h₀ : Heap) (e : Addr) (h : Heap) : Prop where
  fly : ∃ a0, Heap.FlyingW base outer e (.ref C) a0 h
  has : HasAt e k h
  up : h₀.UpToSlots h
  bare : C = 52 → Bare e h
theorem Fault.from {base h₀ h₁ h : Heap} {outer : List Env} {C e : Addr} {k : Int} (x : Fault base outer C k h₁ e h) (u : h₀.UpToSlots h₁) : Fault base outer C k h₀ e h := ⟨x.fly, x.has, u.trans x.up, x.bare⟩
/-- the object itself, as an attribute's reading wants it -/
theorem Fault.inst {base h₀ h : Heap} {outer : List Env} {C e : Addr} {k : Int} (x : Fault base outer C k h₀ e h) : ∃ mA u, h.Inst e C mA ∧ mA "at" = some (.int k u) := by
  obtain ⟨⟨a0, fl⟩, ⟨oe, dx, mA, u, he, hd, hne, hn, ha⟩, _, _⟩ := x
  obtain ⟨o', vs, he', hc, hdat, _⟩ := fl.first
  obtain rfl : oe = o' := Option.some.inj (he.symm.trans he')
  exact ⟨mA, u, ⟨oe, he, hc, fun c q => (by rw [hdat] at q; cases q), .inr ⟨dx, hd, hne, hn⟩⟩, ha⟩
section
variable {M : Model} {A : Around} {E : Value → Shared → Prop} {s' : Shared} {base h₀ h₁ h : Heap} {outer : List Env} {L a e C : Addr} {m : Str → Option Value} {name : Str} {scope : Scope} {cd : Value} {k : Int}
  {Q : Unit → Shared → Prop}
/-- the raising frame is left -/
theorem leave_first {oe : Obj} {vs : Array Value} {a0 : Value} (K : Below A base outer h₀) (F : Fr h₀ L h m) (hk : ∀ b o, h.get? b = some o → s'.heap.get? b = some o)
    (he : s'.heap.get? e = some oe) (hen : h.get? e = none) (hc : oe.cls = .ref C) (hd : oe.data = .fields vs) (h1 : vs[1]? = some .none) (h0 : vs[0]? = some a0) (ha : HasAt e k s'.heap) (hb : C = 52 → Bare e s'.heap)
    (hQ : ∀ h', Fault base outer C k h₀ e h' → Q () { s' with heap := h' }) (hs : scope.kind = .function := by rfl) :
    wpAny M (A.deeper (envOf name scope L a cd)) (leaving (envOf name scope L a cd) (.ref e)) Q E s' := by
  let K' := K.push (name := name) (a := a) (cd := cd) F hs
  have fresh : ∀ b, h.get? b = none → base.get? b = none := fun b hb => by
    cases hq : base.get? b with
    | none => rfl
    | some o' => have := K'.stays b o' hq; rw [hb] at this; cases this
  refine wpAny_mono (wpAny_kd KD.leaving (Q := fun _ s'' => ∃ h', s'' = { s' with heap := h' } ∧ Heap.FlyingW base outer e (.ref C) a0 h' ∧ s'.heap.UpToSlots h') ?_) (E' := E) ?_ fun e' s'' z => z.1
  · refine wpAny_leaving_firstW (a0 := a0) K'.stack (K'.frames.of_keeps fun b o e _ => ⟨o, hk b o e, rfl⟩) rfl he (fun b o hb => hk b o (K'.stays b o hb)) (fresh e hen) hd h1 h0 fun h' hL => ?_
    obtain ⟨k1, ⟨_, _, k2⟩, k3, k4⟩ := hL
    exact ⟨h', rfl, ⟨k1, fresh e hen, k2, hc ▸ k3⟩, k4⟩
  · rintro _ s'' ⟨⟨h', rfl, hf, hu⟩, hd⟩
    exact hQ h' ⟨⟨a0, hf⟩, ha.on hu hd, (Heap.UpToSlots.of_keeps fun b o e => hk b o (F.keep b o e)).trans hu, fun q => (hb q).on hd⟩
/-- a frame between is left -/
theorem leave_next (K : Below A base outer h₀) (hfl : Fault base (envOf name scope L a cd :: outer) C k h₁ e s'.heap)
    (hQ : ∀ h', Fault base outer C k h₁ e h' → Q () { s' with heap := h' }) :
    wpAny M (A.deeper (envOf name scope L a cd)) (leaving (envOf name scope L a cd) (.ref e)) Q E s' := by
  obtain ⟨⟨a0, fl⟩, ha, up, hb⟩ := hfl
  refine wpAny_mono (wpAny_kd KD.leaving (Q := fun _ s'' => ∃ h', s'' = { s' with heap := h' } ∧ Heap.FlyingW base outer e (.ref C) a0 h' ∧ s'.heap.UpToSlots h') ?_) (E' := E) ?_ fun e' s'' z => z.1
  · exact wpAny_leaves_onW (Around.frames_deeper K.stack) rfl fl fun h' hf hu => ⟨h', rfl, hf, hu⟩
  · rintro _ s'' ⟨⟨h', rfl, hf, hu⟩, hd⟩
    exact hQ h' ⟨⟨a0, hf⟩, ha.on hu hd, up.trans hu, fun q => (hb q).on hd⟩
end
end FX

/-! the raise statement for an exception class of the text -/
namespace FX
section
variable {prog : Program} {w : World} {A : Around} {E : Value → Shared → Prop} {s : Shared} {env : Env} {C : Addr}
noncomputable def RaisableF (A : Around) (C : Addr) (E : Value → Shared → Prop) (v : Value) (s₁ : Shared) : Prop :=
  ∃ a ob vs, v = .ref a ∧ s₁.heap.get? a = some ob ∧ ob.cls = .ref C ∧ ob.data = .fields vs ∧ vs[1]? = some .none ∧ Cls s₁.heap C ∧
    (A.handled = none ∧ E (.ref a) s₁ ∨ ∃ b, A.handled = some (.ref b) ∧ b ≠ a ∧ Bare b s₁.heap ∧ 2 < vs.size ∧ E (.ref a) { s₁ with heap := s₁.heap.update a (Obj.mapFields (·.setIfInBounds 2 (.ref b))) })
theorem inst_base {h : Heap} {a : Addr} {ob : Obj} {g : Array GenState} {d : Drawn} {t : Nat} {os : OsState} {Q : Bool → Shared → Prop} (K : Cls h C) (ha : h.get? a = some ob) (hc : ob.cls = .ref C) (hq : Q true ⟨h, g, d, t, os⟩) :
    wpAny (model prog w) A (isInstance (.ref a) (.type "BaseException")) Q E ⟨h, g, d, t, os⟩ := by
  obtain ⟨⟨N, nm, q, bs, sn, sub, ab, col, dd, k0, k1, k2, k3, k5, mN, hC, _⟩, _⟩ := id K
  have hcB : (Value.ref C :: fMro).contains (.type "BaseException") = true := by rw [List.contains_cons, List.contains_cons]; rfl
  unfold isInstance
  repeat (first | (with_reducible refine wpAny_loadPart_at ha ?_; rw [hc]) | (with_reducible refine wpAny_isSubtype_exc hC ?_; rw [hcB]) | wp_step)
  exact hq

theorem entry_unchain : entryFor table "proto.unchain" = some Builtin.«proto.unchain» := entryFor_of_tree (by kernel_rfl)
theorem unchain {a b : Addr} {Q : Value → Shared → Prop} (hb : Bare b s.heap) (hq : Q .none s) :
    wpAny (model prog w) A (runValue (.builtin "proto.unchain" ⟨[.ref a, .ref b, .ref b, .bool false], []⟩)) Q E s := by
  obtain ⟨oe, vs, he, hd, h2⟩ := hb
  refine wpAny_runValue (codeAny_builtin entry_unchain ?_)
  unfold Builtin.«proto.unchain»
  dsimp only
  refine wpAny_bind (wpAny_field he hd h2 ?_)
  rw [if_pos (by decide)]
  exact wpAny_pure hq
theorem Raise_own {e : Expr} {pos : Pos} {Q : Flow → Shared → Prop}
    (h : wpAny (model prog w) A (eval e env) (fun v s₁ => ∃ C, RaisableF A C E v s₁) E s) : wpAny (model prog w) A (exec (.Raise (some e) none pos) env) Q E s := by
  show wpAny (model prog w) A (do standAt pos; raiseStmt env (some (do let v ← eval e env; standAt pos; pure v)) none) Q E s
  refine wpAny_bind (wpAny_standAt ?_)
  unfold raiseStmt
  dsimp only
  refine wpAny_bind (wpAny_bind (wpAny_mono h (fun v s₁ h₁ => wpAny_bind (wpAny_standAt (wpAny_pure ?_))) fun _ _ x => x))
  obtain ⟨C, a, ob, vs, rfl, ha, hcls, hd, h1, K, hE⟩ := h₁
  obtain ⟨hp, g, d, t, os⟩ := s₁
  obtain ⟨⟨N, nm, q, bs, sn, sub, ab, col, dd, k0, k1, k2, k3, k5, mN, hC, _⟩, _⟩ := id K
  have hnt : ∀ {Q' : Bool → Shared → Prop}, Q' false ⟨hp, g, d, t, os⟩ → wpAny (model prog w) A (isType (.ref a)) Q' E ⟨hp, g, d, t, os⟩ := by
    intro Q' hq
    simp only [isType, loadHead]
    refine wpAny_bind (wpAny_loadPart ha ?_)
    rw [hd]; exact wpAny_pure hq
  refine wpAny_bind (wpAny_pure ?_)
  dsimp only
  refine wpAny_bind (wpAny_holding ?_)
  unfold excFromValue isExcClass
  refine wpAny_bind (wpAny_bind (hnt ?_))
  simp only [Bool.false_eq_true, if_false]
  refine wpAny_pure ?_
  simp only [Bool.false_eq_true, if_false]
  refine wpAny_bind (inst_base K ha hcls ?_)
  simp only [if_true]
  refine wpAny_pure ?_
  refine wpAny_bind (hnt ?_)
  simp only [Bool.false_eq_true, if_false]
  unfold raisedInstance
  refine wpAny_bind (wpAny_bind ?_)
  unfold typeOf
  repeat (first | (with_reducible refine wpAny_loadPart_at ha ?_; rw [hcls]) | with_reducible refine wpAny_loadPart_at hC ?_ | wp_step)
  rw [hd]
  refine wpAny_pure ?_
  rw [h1]
  repeat (first | wp_step)
  rcases hE with ⟨hh, hE⟩ | ⟨b, hh, hne, hb, hsz, hE⟩
  · exact wpAny_raiseNew_none hh hE
  · unfold raiseNew
    refine wpAny_bind (wpAny_handled ?_)
    rw [hh]
    have hbn : (Value.ref b != Value.ref a) = true := by simp [hne]
    dsimp only
    rw [if_pos hbn]
    refine wpAny_bind (wpAny_holding (unchain hb ?_))
    unfold updateField
    refine wpAny_bind (wpAny_bind (wpAny_load ha ?_))
    rw [hd]
    dsimp only
    rw [if_pos hsz]
    exact wpAny_update ha (wpAny_throw hE)
end
end FX

namespace FX
noncomputable abbrev arH (hv : Option Value) (dp un : Nat) (gd : Option (List Code)) (outer : List Env) : Around := { handled := hv, depth := dp, frames := some outer, guards := gd, units := un }
theorem under_tc (hv : Option Value) (dp un : Nat) (gd : Option (List Code)) (outer : List Env) (C : Addr) (rest : List Value) : (arH hv dp un gd outer).under (.builtin "type.__call__" ⟨.ref C :: rest, []⟩) = arH hv (dp + 1) (un + 1) gd outer := rfl
section
variable {prog : Program} {w : World} {A : Around} {E : Value → Shared → Prop} {s : Shared} {h : Heap} {g : Array GenState} {d : Drawn} {t : Nat} {os : OsState} {C e : Addr}
theorem getm_init {pl : Sem Bool} {Q : Value × List Value → Shared → Prop} (X : (hd.heap_39 w.params).In s.heap) (hq : Q (.builtin "Exception.__init__", []) { s with toks := s.toks + 1 }) :
    wpAny (model prog w) A (getMethod (.type "Exception") (PySem.Str.ofString "__init__") pl) Q E s := by
  have hstub : opaqueClassAbove (.type "Exception") = pure none := by unfold opaqueClassAbove; dsimp only; rw [show Manifest.isStub "Exception" = false by decide +kernel]; rfl
  have ht : typeOf (.type "Exception") = pure (.type "type") := by first | rfl | kernel_rfl
  have L0 : Looks (model prog w) s.heap (typeOf (.type "Exception")) (.type "type") := Looks.of_pure ht
  have hg : findIn (hd.heap_39 w.params) (.type "type") "__getattribute__" = some (some (.builtin "type.__getattribute__")) := by kernel_rfl
  have hf : findCls (hd.heap_39 w.params) (.type "Exception") (.type "type") "__init__" = some (.val (.builtin "Exception.__init__")) := by kernel_rfl
  unfold getMethod specialOf
  refine wpAny_bind (wpAny_bind (L0.here ((looks_findIn X hg).here ?_)))
  dsimp only
  rw [if_pos (by decide +kernel)]
  refine wpAny_bind (wpAny_mono (Q := fun v => Q (v, [])) (E := E) ?_ (fun _ _ z => wpAny_pure z) fun _ _ z => z)
  have LO : Looks (model prog w) s.heap (opaqueClassAbove (.type "Exception")) none := Looks.of_pure hstub
  refine cls_open X LO L0 hg (looks_hook X (r := none) (by rfl)) (by show subIn (hd.heap_39 w.params) _ _ = _; rfl) hf ?_
  exact wpAny_pure (wpAny_pure hq)
noncomputable abbrev fObj (C T : Addr) : Obj := { cls := .ref C, data := .fields #[.ref T, .none, .none, .none, .bool false, .none] }
theorem call_base_init {T : Addr} {x : PySem.Str} {u : Tok} {Q : Value → Shared → Prop} (K : Cls h C) (he : h.get? e = some (fObj C T))
    (hq : ∀ h', (∀ b o, b ≠ e → h.get? b = some o → h'.get? b = some o) → (∃ T', h.get? T' = none ∧ h'.get? e = some (fObj C T')) → Q .none ⟨h', g, d, t, os⟩) :
    wpAny (model prog w) A (call (.builtin "Exception.__init__") [.ref e, .str x u]) Q E ⟨h, g, d, t, os⟩ := by
  have hcls : (fObj C T).cls = .ref C := rfl
  have F := PySem.F.excBase_Exception
  obtain ⟨⟨N, nm, q, bs, sn, sub, ab, col, dd, k0, k1, k2, k3, k5, mN, hC, _⟩, _⟩ := id K
  have hcB := hasE (C := C)
  have hchk : ∀ {M : Model} {A : Around} {E : Value → Shared → Prop} {Q : Unit → Shared → Prop}, Q () ⟨h, g, d, t, os⟩ → wpAny M A (checkBuiltinCall "Exception.__init__" ⟨.ref e :: [.str x u], []⟩) Q E ⟨h, g, d, t, os⟩ := by
    intro M A E Q hq
    have hshort := F.noStar
    simp only [checkBuiltinCall, F.initKind, F.initSplit, F.initRow]
    repeat (first | (with_reducible refine wpAny_loadPart_at he ?_; rw [hcls]) | with_reducible refine wpAny_loadPart_at hC ?_ | (with_reducible refine wpAny_isSubtype_exc hC ?_; rw [hcB]) | wp_step)
    exact hq
  refine wpAny_call (codeAny_call_builtin F.init.plain F.initEntry (hchk ?_))
  unfold Builtin.«BaseException.__init__»
  repeat (any_goals (first | assumption | wp_step))
  have he₁ : (h.push { cls := .type "tuple", data := .seq #[.str x u] }).get? e = some (fObj C T) := Heap.get?_push_of_some _ he
  refine hq _ (fun b o hb hbo => ?_) ⟨h.objs.size, Heap.get?_none_of_le (Nat.le_refl _), ?_⟩
  · rw [Heap.get?_update_other _ _ (Ne.symm hb)]; exact Heap.get?_push_of_some _ hbo
  · rw [Heap.get?_update_self _ he₁ rfl]; rfl
end
section
variable {prog p : Program} {lz : List Str} {w : World} {mean : ExcName → Option Value} {mg mb : Str → Option Value} {dp un : Nat} {gd : Option (List Code)} {base : Heap} {outer : List Env} {n : Nat}
  {Q E : Value → Shared → Prop} {s : Shared} {hb : Heap} {hv : Option Value}
/-- a def entered over a smaller base -/
theorem enterH {name qual : Str} {params : Arguments} {body : List Stmt} {scope : Scope} {dV kV doc pm cdv ct oc : Value} {an od : Option Addr} {osl : Array (Option Value)} {f : Addr} {args : List Value} {binds : List (Str × Value)}
    (S : Sit p lz w mean mg mb dp un gd base outer (n + 1) hb) (hsub : ∀ b o, hb.get? b = some o → s.heap.get? b = some o) (hsz : hb.objs.size ≤ s.heap.objs.size)
    (ho : (hd.heap_39 w.params).lookup f = some ⟨oc, od, .func (fnOf name qual params body scope dV kV doc pm an cdv ct), osl⟩) (hcd : codeIn (hd.heap_39 w.params) cdv qual = true)
    (hbind : BindsTo s (fnOf name qual params body scope dV kV doc pm an cdv ct) ⟨args, []⟩ binds) (hloc : ∀ y ∈ binds, scope.names.lookup y.1 = some .local)
    (hco : scope.isCoroutine = false) (hgen : scope.isGenerator = false) (hk : scope.kind = .function)
    (hcell : ∀ x ∈ scope.names, x.2 ≠ .cell)
    (h : ∀ L' h₁, Fr hb L' h₁ (fun y => binds.reverse.lookup y) → (∀ b o, s.heap.get? b = some o → h₁.get? b = some o) → s.heap.get? L' = none → Below (arH hv dp un gd outer) base outer hb → (hd.heap_39 w.params).In hb → Top p lz mean mg mb hb →
      Room dp (n + 1) → Units un (n + 1) →
      wpAny (model prog w) ((arH hv dp un gd outer).deeper (envOf qual scope L' f cdv)) (execs body (envOf qual scope L' f cdv))
        (fun fl s' => Q (match fl with | .ret v => v | _ => .none) s')
        (fun e s' => wpAny (model prog w) ((arH hv dp un gd outer).deeper (envOf qual scope L' f cdv)) (leaving (envOf qual scope L' f cdv) e) (fun _ s'' => E e s'') (fun e' s'' => E e' s'') s')
        { s with heap := h₁, toks := s.toks + binds.length })
     : wpAny (model prog w) (arH hv dp un gd outer) (call (.ref f) args) Q E s := by
  refine wpAny_call ?_
  have T := S.top
  have X' := S.kin.keeps hsub
  refine codeAny_call_def (fd := fnOf name qual params body scope dV kV doc pm an cdv ct) (body := body) (binds := binds) S.room.low (X' _ _ ho) rfl (T.nolimit.keeps hsub) (codeRec_of X' hcd) rfl hbind hcell hloc (fun h₁ hns hk₁ => ?_) hco hgen hk
  exact h s.heap.objs.size h₁ ⟨hns, fun b o e => hk₁ b o (hsub b o e), hsz⟩ hk₁ (Heap.get?_none_of_le (Nat.le_refl _)) ⟨rfl, S.below.stays, S.below.frames⟩ S.kin T S.room S.units
/-- the exception e, built over h -/
structure Made (C e : Addr) (k : Int) (h h' : Heap) : Prop where
  keep : ∀ b o, b ≠ e → h.get? b = some o → h'.get? b = some o
  obj : ∃ ob T', h'.get? e = some ob ∧ ob.cls = .ref C ∧ ob.data = .fields #[.ref T', .none, .none, .none, .bool false, .none]
  has : HasAt e k h'
set_option maxHeartbeats 2000000 in
theorem ct_init {e C T : Addr} {x : PySem.Str} {k : Int} {t u : Tok} (S : Sit p lz w mean mg mb dp un gd base outer (n + 1) hb) (hsub : ∀ b o, hb.get? b = some o → s.heap.get? b = some o) (hsz : hb.objs.size ≤ s.heap.objs.size)
  (he : s.heap.get? e = some { cls := .ref C, data := .fields #[.ref T, .none, .none, .none, .bool false, .none] }) (hen : hb.get? e = none) (K : Cls hb C)
  (hret : ∀ h' tk', Made C e k s.heap h' → Q .none { s with heap := h', toks := tk' }) :
  wpAny (model prog w) (arH hv dp un gd outer) (call (.ref 29) [.ref e, .str x t, .int k u]) Q E s := by
  k_dflt refine' enterH (binds := [(Str.ofString "self", .ref e), (Str.ofString "what", .str x t), (Str.ofString "at", .int k u)]) S hsub hsz ?k6 ?k7 ?k9 ?kB ?c2 ?c3 ?c4 ?c5 ?_
  case k6 => k_is
  case k9 => exact BindsTo.of_defaults rfl ((S.kin.keeps hsub) _ _ (by k_is)) rfl rfl rfl
  (k_dflt ((case k7 => k_is); (case c5 => decide); (case kB => exact locs rfl); (case c2 => exact rfl); (case c3 => exact rfl); (case c4 => exact rfl)); k_whole; intro L1 h1 F1 hs1 hL1 B1 X1 T1 hroom hunits; (try dsimp only [List.reverse_cons, List.reverse_nil, List.nil_append, List.cons_append]); (try k_fold))
  have N1 : News hb L1 h1 [] := fun p hp => nomatch hp
  k_steps
  refine getm_init (X1.keeps F1.keep) ?_
  k_steps
  have heL : L1 ≠ e := fun q => by rw [q, he] at hL1; cases hL1
  have hne : ∀ b o, hb.get? b = some o → b ≠ e := fun b o q q2 => by rw [q2, hen] at q; cases q
  refine call_base_init (K.keeps F1.keep) (hs1 _ _ he) (fun h2 hk2 he2 => ?_)
  have F2 : Fr hb L1 h2 _ := ⟨by obtain ⟨o, es, ep, ho, r⟩ := F1.ns; exact ⟨o, es, ep, hk2 _ _ heL ho, r⟩, fun b o q => hk2 _ _ (hne _ _ q) (F1.keep _ _ q), F1.above⟩
  have N2 : News hb L1 h2 [] := fun p hp => nomatch hp
  clear F1 N1
  k_steps
  obtain ⟨T2, hT2, he2⟩ := he2
  have I2 : h2.Inst e C (fun _ => none) := ⟨_, he2, rfl, (fun c q => by cases q), Or.inl ⟨rfl, fun _ => rfl⟩⟩
  refine store_attr (K.keeps F2.keep) (by simp [quiet]) (by kernel_rfl) I2 (fun h3 tk3 I3 hk3 hs3 => ?_) Within.nil
  have hk3' : ∀ b o, b ≠ e → h2.get? b = some o → h3.get? b = some o := fun b o q q2 => hk3 b o q (fun o₀ dx a1 a2 => by rw [he2] at a1; cases a1; cases a2) q2
  obtain ⟨o3, he3, hc3, hd3, hx3⟩ := hs3 _ he2
  have F3 : Fr hb L1 h3 _ := ⟨by obtain ⟨o, es, ep, ho, r⟩ := F2.ns; exact ⟨o, es, ep, hk3' _ _ heL ho, r⟩, fun b o q => hk3' _ _ (hne _ _ q) (F2.keep _ _ q), F2.above⟩
  have N3 : News hb L1 h3 [] := fun p hp => nomatch hp
  have hL2 : ∃ o, h2.get? L1 = some o := by obtain ⟨o, _, _, ho, _⟩ := F2.ns; exact ⟨o, ho⟩
  clear N2
  k_steps
  refine store_attr (K.keeps F3.keep) (by simp [quiet]) (by kernel_rfl) I3 (fun h4 tk4 I4 hk4 hs4 => ?_) (Within.cons _ _ Within.nil)
  have hk4' : ∀ b o, b ≠ e → (∃ o2, h2.get? b = some o2) → h3.get? b = some o → h4.get? b = some o := fun b o q ⟨o2, q2⟩ q3 => hk4 b o q (fun o₀ dx a1 a2 => by
    obtain rfl : o3 = o₀ := Option.some.inj (he3.symm.trans a1)
    rcases hx3 dx a2 with a3 | a3
    · cases a3
    · intro z; rw [← z, q2] at a3; cases a3) q3
  obtain ⟨o4, he4, hc4, hd4, hx4⟩ := hs4 _ he3
  have F4 : Fr hb L1 h4 _ := ⟨by obtain ⟨o, es, ep, ho, r⟩ := F3.ns; exact ⟨o, es, ep, hk4' _ _ heL hL2 ho, r⟩, fun b o q => hk4' _ _ (hne _ _ q) ⟨_, F2.keep _ _ q⟩ (F3.keep _ _ q), F3.above⟩
  have N4 : News hb L1 h4 [] := fun p hp => nomatch hp
  clear N3
  k_steps
  refine hret h4 tk4 ⟨fun b o q q2 => ?_, ⟨o4, T2, he4, by rw [hc4, hc3], by rw [hd4, hd3]⟩, ?_⟩
  · have q3 := hk2 b o q (hs1 b o q2)
    exact hk4' b o q ⟨o, q3⟩ (hk3' b o q q3)
  · obtain ⟨o, ho, _, _, hd⟩ := I4
    rcases hd with ⟨_, hn⟩ | ⟨dx, hdx, hne, hns⟩
    · have := hn (Str.ofString "at"); dsimp only at this; rw [if_pos rfl] at this; cases this
    · exact ⟨o, dx, _, u, ho, hdx, hne, hns, if_pos rfl⟩
end
end FX

/-! calling an exception class of the text -/
namespace FX
section
variable {prog p : Program} {lz : List Str} {w : World} {mean : ExcName → Option Value} {mg mb : Str → Option Value} {dp un : Nat} {gd : Option (List Code)} {base : Heap} {outer : List Env} {n : Nat}
  {Q E : Value → Shared → Prop} {s : Shared} {hv : Option Value} {C : Addr} {x : PySem.Str} {k : Int} {t u : Tok}
theorem call_fault (S : Sit p lz w mean mg mb dp un gd base outer (n + 2) s.heap) (hC : C = 52 ∨ C = 64)
    (hret : ∀ h' tk' e, s.heap.get? e = none → Made C e k s.heap h' → Q (.ref e) { s with heap := h', toks := tk' }) :
    wpAny (model prog w) (arH hv dp un gd outer) (call (.ref C) [.str x t, .int k u]) Q E s := by
  have K : Cls s.heap C := by rcases hC with rfl | rfl <;> first | exact (cls_of S.kin).1 | exact (cls_of S.kin).2
  obtain ⟨h, g, d, tk, os⟩ := s
  refine call_cls K fun h' e hx hz => ?_
  rw [under_tc]
  obtain ⟨T, he, hT, ht⟩ := hx.there
  have S' : Sit p lz w mean mg mb (dp + 1) (un + 1) gd base outer (n + 1) h := ⟨S.kin, S.top, ⟨rfl, S.below.stays, S.below.frames⟩, S.room.deep, S.units.up (by decide)⟩
  refine ct_init (T := T) S' hx.keeps hz he hx.new K fun h₂ tk₂ M => ⟨rfl, hret h₂ tk₂ e hx.new ?_⟩
  exact ⟨fun b o q q2 => M.keep b o q (hx.keeps b o q2), M.obj, M.has⟩
/-- what the raise statement wants -/
theorem Made.raisable {A : Around} {h : Heap} {e : Addr} {s₁ : Shared} (M : Made C e k h s₁.heap) (hen : h.get? e = none) (K : Cls h C) (hh : A.handled = none) (hE : E (.ref e) s₁) : RaisableF A C E (.ref e) s₁ := by
  obtain ⟨ob, T, ho, hc, hd⟩ := M.obj
  exact ⟨e, ob, _, rfl, ho, hc, hd, rfl, K.keeps fun b o q => M.keep b o (fun z => by rw [z, hen] at q; cases q) q, .inl ⟨hh, hE⟩⟩
end
end FX

/-! a raise in a def: what its caller gets -/
namespace FX
section
variable {prog p : Program} {lz : List Str} {w : World} {mean : ExcName → Option Value} {mg mb : Str → Option Value} {dp un : Nat} {gd : Option (List Code)} {base : Heap} {outer : List Env} {n : Nat}
  {E : Value → Shared → Prop} {s : Shared} {h₀ : Heap} {L a C : Addr} {m : Str → Option Value} {cn : Str} {cs : Scope} {ccd : Value} {x : PySem.Str} {k : Int} {t u : Tok}
noncomputable abbrev outE (prog : Program) (w : World) (A : Around) (env : Env) (E : Value → Shared → Prop) : Value → Shared → Prop :=
  fun e s' => wpAny (model prog w) A (leaving env e) (fun _ s'' => E e s'') (fun e' s'' => E e' s'') s'
theorem raise_end (B : Below (ar dp un gd outer) base outer h₀) (F : Fr h₀ L s.heap m) (X : (hd.heap_39 w.params).In h₀) (T : Top p lz mean mg mb h₀)
    (room : Room dp (n + 3)) (units : Units un (n + 3)) (hC : C = 52 ∨ C = 64)
    (hexc : ∀ e h' tk', Fault base outer C k h₀ e h' → E (.ref e) { s with heap := h', toks := tk' }) (hk : cs.kind = .function := by rfl) :
    wpAny (model prog w) ((ar dp un gd outer).deeper (envOf cn cs L a ccd)) (call (.ref C) [.str x t, .int k u])
      (fun v s₁ => ∃ C, RaisableF ((ar dp un gd outer).deeper (envOf cn cs L a ccd)) C (outE prog w ((ar dp un gd outer).deeper (envOf cn cs L a ccd)) (envOf cn cs L a ccd) E) v s₁)
      (outE prog w ((ar dp un gd outer).deeper (envOf cn cs L a ccd)) (envOf cn cs L a ccd) E) s := by
  have S := Sit.use (n := n + 2) (cn := cn) (a := a) (ccd := ccd) B F X T room units hk
  have K : Cls s.heap C := by rcases hC with rfl | rfl <;> first | exact (cls_of S.kin).1 | exact (cls_of S.kin).2
  refine call_fault (hv := none) S hC fun h' tk' e hen M => ⟨C, M.raisable (k := k) hen K rfl ?_⟩
  obtain ⟨ob, T', ho, hc, hd⟩ := M.obj
  refine leave_first (m := m) (vs := _) (a0 := .ref T') B F (fun b o q => M.keep b o (fun z => by rw [z, hen] at q; cases q) q) ho hen hc hd rfl rfl M.has (fun _ => ⟨ob, _, ho, hd, rfl⟩) (fun h'' hF => ?_) hk
  exact hexc e h'' tk' hF
end
end FX

theorem keys8 : True := by
  k_with "exec Raise some none" => (refine FX.Raise_own ?_)
  trivial

section
variable {prog p : Program} {lz : List Str} {w : World} {mean : ExcName → Option Value} {mg mb : Str → Option Value} {dp un : Nat} {gd : Option (List Code)} {base : Heap} {outer : List Env} {n : Nat}
  {Q E : Value → Shared → Prop} {s : Shared}
set_option maxHeartbeats 2000000 in
theorem cx_shift_behind {o : Array UInt8} {os : List Int} {t t1 : Tok} {b : Nat} (S : Sit p lz w mean mg mb dp un gd base outer (n + 3) s.heap)
  (ho : KBw.bInts o = os) (hb : b ≤ os.length) (hk : os.length ≤ 200000)
  (hret : sEnd os b < os.length → os[sEnd os b]? = some 45 → ∀ t h' tk', s.heap.StaysIn h' → Q (.int (sEnd os b : Nat) t) { s with heap := h', toks := tk' })
  (hexc : os[sEnd os b]? ≠ some 45 → ∀ e h' tk', FX.Fault base outer 64 (sEnd os b : Nat) s.heap e h' → E (.ref e) { s with heap := h', toks := tk' }) :
  wpAny (model prog w) (ar dp un gd outer) (call (.ref 144) [.bytes o t, .int b t1]) Q E s := by
  k_dflt refine' enterS (binds := [(Str.ofString "octets", .bytes o t), (Str.ofString "begin", .int b t1)]) S ?k6 ?k7 ?k9 ?kB ?c2 ?c3 ?c4 ?c5 ?_
  walk_at "enter_s"
  k_steps
  rename_i h6 F6 N6
  refine unhalt (ksw_while (σ := Nat × Tok) (fun _ => []) (fun c => [(Str.ofString "end", .int c.1 c.2)]) (fun _ => True) [] (fun c => c.1 ≤ os.length ∧ sEnd os c.1 = sEnd os b) (fun c => os.length - c.1) (b, t1) F6 N6 trivial ?_ ⟨hb, rfl⟩ ?_)
  · intro p hp; rw [List.mem_singleton.mp hp]; rfl
  · rintro ⟨i, ti⟩ u h tk _ hp F N
    dsimp only at hp F N
    rcases Nat.lt_or_ge i os.length with hi | hi
    · have hst := sEnd_stop hi
      have hsn := sEnd_step hi
      have hgd : os.getD (i : Int).toNat 0 = os[i] := by simp [hi]
      generalize hc0 : os[i] = c0 at hst hsn hgd
      k_steps
      · (with_unfolding_all refine' ksw_end (i + 1, _) ?wF ?wN ?wn ?wf ?wk ?wr ?wp ?wm); walk_at "while_end"
        · exact ⟨hi, (hsn (by rw [← hgd]; assumption)).symm.trans hp.2⟩
        · exact Nat.sub_lt_sub_left hi (Nat.lt_succ_self i)
      · exfalso; omega
      · have e := hp.2.symm.trans (hst (by rw [← hgd]; assumption))
        have h45 : os[i]? ≠ some 45 := by rw [List.getElem?_eq_getElem hi, hc0]; intro z; have := Option.some.inj z; lia
        rw [e] at hexc
        exact FX.raise_end (by assumption) F (by assumption) (by assumption) (by assumption) (by assumption) (.inr rfl) (hexc h45)
      · have e := hp.2.symm.trans (hst (by rw [← hgd]; assumption))
        have h45 : os[i]? = some 45 := by rw [List.getElem?_eq_getElem hi, hc0]; congr 1; lia
        rw [e] at hret
        exact hret hi h45 _ _ _ (Fr.keep (by assumption))
    · have e := hp.2.symm.trans (sEnd_end hi)
      have h45 : os[i]? ≠ some 45 := by rw [List.getElem?_eq_none hi]; exact fun z => nomatch z
      rw [e] at hexc
      k_steps
      all_goals exact FX.raise_end (by assumption) F (by assumption) (by assumption) (by assumption) (by assumption) (.inr rfl) (hexc h45)
end

/-! what is read: the text, or the place of the fault -/
noncomputable abbrev Rdg := Except Nat (List Nat)
noncomputable def pre (ds : List Nat) : Rdg → Rdg
  | .ok r => .ok (ds ++ r)
  | .error k => .error k
theorem pre_nil (r9 : Rdg) : pre [] r9 = r9 := by cases r9 <;> rfl
theorem pre_pre (a b : List Nat) (r9 : Rdg) : pre a (pre b r9) = pre (a ++ b) r9 := by
  cases r9 with
  | error k => rfl
  | ok r9 => show Except.ok (a ++ (b ++ r9)) = Except.ok (a ++ b ++ r9); rw [List.append_assoc]
/-- the units of a shift that begins at b, from unit j on; hi: the high half that waits, or 0 -/
noncomputable def sc (b : Nat) : Int → List Int → Nat → Rdg
  | hi, [], j => if 0 < hi then .error (b + 16 * (j - 1) / 6) else .ok []
  | hi, u :: us, j =>
    if 0 < hi then (if 56320 ≤ u ∧ u ≤ 57343 then pre [(65536 + (hi - 55296) * 1024 + u - 56320).toNat] (sc b 0 us (j + 1)) else .error (b + 16 * (j - 1) / 6))
    else if 55296 ≤ u ∧ u ≤ 56319 then sc b u us (j + 1)
    else if 55296 ≤ u ∧ u ≤ 57343 then .error (b + 16 * j / 6)
    else if 32 ≤ u ∧ u ≤ 126 then .error (b + 16 * j / 6)
    else pre [u.toNat] (sc b 0 us (j + 1))
theorem sc_pair {b j : Nat} {hi u : Int} {us : List Int} (h : 0 < hi) (h1 : 56320 ≤ u) (h2 : u ≤ 57343) : sc b hi (u :: us) j = pre [(65536 + (hi - 55296) * 1024 + u - 56320).toNat] (sc b 0 us (j + 1)) := by
  rw [sc, if_pos h, if_pos ⟨h1, h2⟩]
theorem sc_lone {b j : Nat} {hi u : Int} {us : List Int} (h : 0 < hi) (h1 : ¬ (56320 ≤ u ∧ u ≤ 57343)) : sc b hi (u :: us) j = .error (b + 16 * (j - 1) / 6) := by
  rw [sc, if_pos h, if_neg h1]
theorem sc_high {b j : Nat} {u : Int} {us : List Int} (h1 : 55296 ≤ u) (h2 : u ≤ 56319) : sc b 0 (u :: us) j = sc b u us (j + 1) := by
  rw [sc, if_neg (by decide), if_pos ⟨h1, h2⟩]
theorem sc_half {b j : Nat} {u : Int} {us : List Int} (h1 : 56319 < u) (h2 : u ≤ 57343) : sc b 0 (u :: us) j = .error (b + 16 * j / 6) := by
  rw [sc, if_neg (by decide), if_neg (by lia), if_pos (by lia)]
theorem sc_plain {b j : Nat} {u : Int} {us : List Int} (h1 : 32 ≤ u) (h2 : u ≤ 126) : sc b 0 (u :: us) j = .error (b + 16 * j / 6) := by
  rw [sc, if_neg (by decide), if_neg (by lia), if_neg (by lia), if_pos ⟨h1, h2⟩]
theorem sc_one {b j : Nat} {u : Int} {us : List Int} (h1 : ¬ (55296 ≤ u ∧ u ≤ 57343)) (h2 : ¬ (32 ≤ u ∧ u ≤ 126)) : sc b 0 (u :: us) j = pre [u.toNat] (sc b 0 us (j + 1)) := by
  rw [sc, if_neg (by decide), if_neg (by lia), if_neg h1, if_neg h2]
/-- x in n figures of base B -/
noncomputable def digs (B x : Int) (n : Nat) : List Int := (List.range n).map fun i => x / B ^ (n - 1 - i) % B
/-- a shift with the numbers ns, its first sign at b -/
noncomputable def shR (ns : List Nat) (b : Nat) : Rdg :=
  if ns.length % 4 = 1 then .error (b + ns.length - 1)
  else if wTot (nInts ns) % 2 ^ (6 * ns.length % 8) ≠ 0 then .error (b + ns.length - 1)
  else if 6 * ns.length / 8 % 2 = 1 then .error (b + ns.length)
  else sc b 0 (digs 65536 (wTot (nInts ns) / 2 ^ (6 * ns.length - 16 * (6 * ns.length / 16))) (6 * ns.length / 16)) 0
noncomputable def nsOf (os : List Int) (b e : Nat) : List Nat := ((os.drop b).take (e - b)).map fun c => sgn.idxOf c
theorem sEnd_ge (os : List Int) (b : Nat) : b ≤ sEnd os b := Nat.le_add_right _ _
/-- one step of the reading of the octets from i on; sh: the place behind the last shift -/
noncomputable def rdStep (os : List Int) (i : Nat) (sh : Int) (f : Nat → Int → Rdg) : Rdg :=
  if os.length ≤ i then .ok []
  else if ¬ (32 ≤ os.getD i 0 ∧ os.getD i 0 ≤ 126) then .error i
  else if os.getD i 0 ≠ 38 then pre [(os.getD i 0).toNat] (f (i + 1) sh)
  else if os[sEnd os (i + 1)]? ≠ some 45 then .error (sEnd os (i + 1))
  else if sEnd os (i + 1) = i + 1 then pre [38] (f (i + 2) sh)
  else if (i : Int) = sh then .error i
  else (shR (nsOf os (i + 1) (sEnd os (i + 1))) (i + 1)).bind fun ds => pre ds (f (sEnd os (i + 1) + 1) (sEnd os (i + 1) + 1 : Nat))
theorem rdStep_congr {os : List Int} {i : Nat} {sh : Int} {f g : Nat → Int → Rdg} (h : ∀ j sh, i < j → f j sh = g j sh) : rdStep os i sh f = rdStep os i sh g := by
  have hge := sEnd_ge os (i + 1)
  unfold rdStep
  rw [h (i + 1) sh (Nat.lt_succ_self _), h (i + 2) sh (Nat.lt_add_of_pos_right (by decide)), h (sEnd os (i + 1) + 1) _ (Nat.lt_succ_of_lt hge)]
noncomputable def rdF (os : List Int) : Nat → Nat → Int → Rdg
  | 0, _, _ => .ok []
  | n + 1, i, sh => rdStep os i sh (rdF os n)
theorem rdF_fuel {os : List Int} : ∀ (n m i : Nat) (sh : Int), os.length - i ≤ n → os.length - i ≤ m → rdF os n i sh = rdF os m i sh
  | 0, 0, _, _, _, _ => rfl
  | 0, m + 1, i, sh, h, _ => (if_pos (Nat.le_of_sub_eq_zero (Nat.le_zero.mp h))).symm
  | n + 1, 0, i, sh, _, h => if_pos (Nat.le_of_sub_eq_zero (Nat.le_zero.mp h))
  | n + 1, m + 1, i, sh, h1, h2 => rdStep_congr fun j sh hj => rdF_fuel n m j sh (by lia) (by lia)
/-- the reading of the octets from i on -/
noncomputable def rd (os : List Int) (i : Nat) (sh : Int) : Rdg := rdF os (os.length - i) i sh
section
variable {os : List Int} {i : Nat} {sh : Int}
theorem rd_done (h : os.length ≤ i) : rd os i sh = .ok [] := by unfold rd; rw [Nat.sub_eq_zero_of_le h]; rfl
theorem rd_step (h : i < os.length) : rd os i sh = rdStep os i sh (rd os) := by
  obtain ⟨n, hn⟩ : ∃ n, os.length - i = n + 1 := ⟨os.length - i - 1, by lia⟩
  unfold rd
  rw [hn]
  exact rdStep_congr fun j sh hj => rdF_fuel _ _ j sh (by lia) (Nat.le_refl _)
theorem rd_raw (h : i < os.length) (h1 : ¬ (32 ≤ os.getD i 0 ∧ os.getD i 0 ≤ 126)) : rd os i sh = .error i := by
  rw [rd_step h]; exact (if_neg (Nat.not_le.mpr h)).trans (if_pos h1)
theorem rd_plain (h : i < os.length) (h1 : 32 ≤ os.getD i 0) (h2 : os.getD i 0 ≤ 126) (h3 : os.getD i 0 ≠ 38) : rd os i sh = pre [(os.getD i 0).toNat] (rd os (i + 1) sh) := by
  rw [rd_step h]; exact (if_neg (Nat.not_le.mpr h)).trans ((if_neg (fun z => z ⟨h1, h2⟩)).trans (if_pos h3))
theorem rd_38 (h : i < os.length) (h3 : os.getD i 0 = 38) : rd os i sh = if os[sEnd os (i + 1)]? ≠ some 45 then .error (sEnd os (i + 1)) else if sEnd os (i + 1) = i + 1 then pre [38] (rd os (i + 2) sh) else if (i : Int) = sh then .error i
  else (shR (nsOf os (i + 1) (sEnd os (i + 1))) (i + 1)).bind fun ds => pre ds (rd os (sEnd os (i + 1) + 1) (sEnd os (i + 1) + 1 : Nat)) := by
  rw [rd_step h]; exact (if_neg (Nat.not_le.mpr h)).trans ((if_neg (fun z => z (by rw [h3]; decide))).trans (if_neg (fun z => z h3)))
theorem rd_open (h : i < os.length) (h3 : os.getD i 0 = 38) (h4 : os[sEnd os (i + 1)]? ≠ some 45) : rd os i sh = .error (sEnd os (i + 1)) := by
  rw [rd_38 h h3, if_pos h4]
theorem rd_amp (h : i < os.length) (h3 : os.getD i 0 = 38) (h4 : os[sEnd os (i + 1)]? = some 45) (h5 : sEnd os (i + 1) = i + 1) : rd os i sh = pre [38] (rd os (i + 2) sh) := by
  rw [rd_38 h h3, if_neg (fun z => z h4), if_pos h5]
theorem rd_need (h : i < os.length) (h3 : os.getD i 0 = 38) (h4 : os[sEnd os (i + 1)]? = some 45) (h5 : sEnd os (i + 1) ≠ i + 1) (h6 : (i : Int) = sh) : rd os i sh = .error i := by
  rw [rd_38 h h3, if_neg (fun z => z h4), if_neg h5, if_pos h6]
theorem rd_bad {k : Nat} (h : i < os.length) (h3 : os.getD i 0 = 38) (h4 : os[sEnd os (i + 1)]? = some 45) (h5 : sEnd os (i + 1) ≠ i + 1) (h6 : (i : Int) ≠ sh) (h7 : shR (nsOf os (i + 1) (sEnd os (i + 1))) (i + 1) = .error k) : rd os i sh = .error k := by
  rw [rd_38 h h3, if_neg (fun z => z h4), if_neg h5, if_neg h6, h7]; rfl
theorem rd_shift {ds : List Nat} (h : i < os.length) (h3 : os.getD i 0 = 38) (h4 : os[sEnd os (i + 1)]? = some 45) (h5 : sEnd os (i + 1) ≠ i + 1) (h6 : (i : Int) ≠ sh) (h7 : shR (nsOf os (i + 1) (sEnd os (i + 1))) (i + 1) = .ok ds) :
    rd os i sh = pre ds (rd os (sEnd os (i + 1) + 1) (sEnd os (i + 1) + 1 : Nat)) := by
  rw [rd_38 h h3, if_neg (fun z => z h4), if_neg h5, if_neg h6, h7]; rfl
end

/-! whole statements in one step, states written out -/
section
variable {prog : Program} {w : World} {A : Around} {E : Value → Shared → Prop} {h₀ h : Heap} {g : Array GenState} {d : Drawn} {tk₀ : Nat} {o : OsState} {env : Env} {L : Addr} {m : Str → Option Value} {e : PySem.Expr} {P N : Prop}
theorem ev_intL {x : Int} {Q : Value → Shared → Prop} (F : Fr h₀ L h m) (hL9 : env.locals = L) (hv9 : EvI ⟨prog, w, h₀, env, m⟩ e x) (k : ∀ t tk, Q (.int x t) ⟨h, g, d, tk, o⟩) : wpAny (model prog w) A (eval e env) Q E ⟨h, g, d, tk₀, o⟩ := by
  subst hL9; exact hv9 A E _ Q F k
theorem ev_testL {K : Bool → Shared → Prop} (F : Fr h₀ L h m) (hL9 : env.locals = L) (hv9 : EvT ⟨prog, w, h₀, env, m⟩ e P N) (k1 : P → ∀ tk, K true ⟨h, g, d, tk, o⟩) (k2 : N → ∀ tk, K false ⟨h, g, d, tk, o⟩) :
    wpAny (model prog w) A (isTrue e env (eval e env)) K E ⟨h, g, d, tk₀, o⟩ := by
  subst hL9; exact hv9 A E _ K F k1 k2
theorem ev_testI {T U : Shared → Prop} (F : Fr h₀ L h m) (hL9 : env.locals = L) (hv9 : EvT ⟨prog, w, h₀, env, m⟩ e P N) (k1 : P → ∀ tk, T ⟨h, g, d, tk, o⟩) (k2 : N → ∀ tk, U ⟨h, g, d, tk, o⟩) :
    wpAny (model prog w) A (isTrue e env (eval e env)) (fun b s => if b then T s else U s) E ⟨h, g, d, tk₀, o⟩ :=
  ev_testL F hL9 hv9 (fun q tk => by rw [if_pos rfl]; exact k1 q tk) fun q tk => by rw [if_neg Bool.false_ne_true]; exact k2 q tk
theorem ev_If {Q : Flow → Shared → Prop} {body orelse : List Stmt} {pos : Pos} (F : Fr h₀ L h m) (hL9 : env.locals = L) (hv9 : EvT ⟨prog, w, h₀, env, m⟩ e P N) (k1 : P → ∀ tk, wpAny (model prog w) A (execs body env) Q E ⟨h, g, d, tk, o⟩) (k2 : N → ∀ tk, wpAny (model prog w) A (execs orelse env) Q E ⟨h, g, d, tk, o⟩) :
    wpAny (model prog w) A (exec (.If e body orelse pos) env) Q E ⟨h, g, d, tk₀, o⟩ :=
  wpAny_If (ev_testI F hL9 hv9 k1 k2)
theorem ev_seq {Q : Flow → Shared → Prop} {x : Str} {px pos : Pos} {rest : List Stmt} {v : Int} {news : List (Addr × Obj)} {cn : Str} {cs : Scope} {f : Addr} {ccd : Value} {cl : List (Str × Addr)} (F : Fr h₀ L h m) (Nw : News h₀ L h news) (hv9 : EvI ⟨prog, w, h₀, envX cn cs L f ccd cl, m⟩ e v)
    (hs9 : swapsWith e (some (.Name x px)) pos.line (envX cn cs L f ccd cl) = pure false) (hk9 : cs.kind = .function) (hx9 : cs.names.lookup x = some .local)
    (k : ∀ t h' tk, let m' : Str → Option Value := fun y => if y = x then some (.int v t) else m y; Fr h₀ L h' m' → News h₀ L h' news → wpAny (model prog w) A (execs rest (envX cn cs L f ccd cl)) Q E ⟨h', g, d, tk, o⟩) :
    wpAny (model prog w) A (execs (.Assign [.Name x px] e pos :: rest) (envX cn cs L f ccd cl)) Q E ⟨h, g, d, tk₀, o⟩ :=
  wpAny_execs_cons (wpAny_Assign_Name (ev_intL F rfl hv9 fun t tk => storeX_L F Nw (fun h' F' N' => k t h' _ F' N') hk9 hx9) hs9)
theorem storeL_let {Q : Unit → Shared → Prop} {x : Str} {v : Value} {news : List (Addr × Obj)} {cn : Str} {cs : Scope} {f : Addr} {ccd : Value} {cl : List (Str × Addr)} (F : Fr h₀ L h m) (Nw : News h₀ L h news) (hk9 : cs.kind = .function) (hx9 : cs.names.lookup x = some .local)
    (k : ∀ h', let m' : Str → Option Value := fun y => if y = x then some v else m y; Fr h₀ L h' m' → News h₀ L h' news → Q () ⟨h', g, d, tk₀ + 1, o⟩) : wpAny (model prog w) A (storeName (envX cn cs L f ccd cl) x v) Q E ⟨h, g, d, tk₀, o⟩ :=
  storeX_L F Nw (fun h' F' N' => k h' F' N') hk9 hx9
theorem let_m {G : Prop} (F : Fr h₀ L h m) (k : let m' : Str → Option Value := m; Fr h₀ L h m' → G) : G := k F
end
theorem toks_any {M : Model} {α : Type} {A : Around} {t : Sem α} {Q : α → Shared → Prop} {E : Value → Shared → Prop} {h : Heap} {g : Array GenState} {d : Drawn} {tk : Nat} {o : OsState} (k : ∀ tk, wpAny M A t Q E ⟨h, g, d, tk, o⟩) : wpAny M A t Q E ⟨h, g, d, tk, o⟩ := k tk
theorem not_in {x z : Str} {l : List Str} (h : (x :: l).contains z = false) : z ≠ x ∧ l.contains z = false := by
  rw [List.contains_cons, Bool.or_eq_false_iff] at h
  exact ⟨fun e => by rw [e, beq_self_eq_true] at h; exact Bool.noConfusion h.1, h.2⟩

theorem keys9 : True := by
  k_with "evgo" => ((k_dflt (refine' ev_intL (by k_asm) rfl (by walk_at "ev") ?_); intro _ _))
  k_with "evgoT" => ((k_dflt (first | refine' ev_testI (by k_asm) rfl (by walk_at "evT") ?_ ?_ | refine' ev_testL (by k_asm) rfl (by walk_at "evT") ?_ ?_)) <;> (intro _ _; first | (exfalso; omega) | ((try dsimp only); (first | refine Eq.mpr (if_pos rfl) ?_ | refine Eq.mpr (if_neg Bool.false_ne_true) ?_ | skip))))
  k_with "exec If" => ((k_here; (k_dflt (refine' ev_If (by k_asm) rfl (by walk_at "evT") ?_ ?_)) <;> (intro _ _; first | (exfalso; omega) | skip)))
  k_with "execs cons" => ((k_here; (try k_gentoks); (try ((with_reducible show wpAny _ _ _ _ _ (Shared.mk _ _ _ (_ + _) _)); refine toks_any ?_; intro _)); (try k_fold); first | ((with_reducible show wpAny _ _ (execs (Stmt.Assign [Expr.Name _ _] _ _ :: _) _) _ _ _); (first | (with_reducible show wpAny _ _ (execs (Stmt.Assign _ (Expr.BinOp _ _ _ _) _ :: _) _) _ _ _) | (with_reducible show wpAny _ _ (execs (Stmt.Assign _ (Expr.Constant _ _ _) _ :: _) _) _ _ _) | (with_reducible show wpAny _ _ (execs (Stmt.Assign _ (Expr.Subscript _ _ _) _ :: _) _) _ _ _) | (with_reducible show wpAny _ _ (execs (Stmt.Assign _ (Expr.Name _ _) _ :: _) _) _ _ _)); k_dflt (refine' ev_seq (by k_asm) (by k_asm) (by walk_at "ev") (by rfl) (by rfl) (by decide) ?_); k_whole; intro _ _ _ _ _ _; (try k_sweep)) | ((with_reducible refine wpAny_execs_cons ?_); (try k_fold); (try dsimp only))))
  k_with "hrs" => (intro z9; intros; (try ((rename List.contains _ _ = false => hz9); (try (have q1 := not_in hz9; try (have q2 := not_in q1.2; try (have q3 := not_in q2.2; try have q4 := not_in q3.2)))))); (repeat (first | with_reducible rfl | refine Eq.trans (if_neg (by first | with_reducible assumption | with_reducible exact q1.1 | with_reducible exact q2.1 | with_reducible exact q3.1 | with_reducible exact q4.1 | (rw [hz9]; exact Bool.false_ne_true) | exact Bool.false_ne_true)) ?_ | rfl)))
  k_with "storeName" => (k_here; k_dflt (refine' storeL_let (by k_asm) (by k_asm) (by rfl) (by decide) ?_); k_whole; intro _ _ _ _; (try k_sweep))
  k_with "enter_s" => ((k_dflt ((case k6 => k_is); (case k7 => k_is); (case k9 => exact BindsTo.of_eq rfl); (case c5 => decide); (case kB => exact locs rfl); (case c2 => exact rfl); (case c3 => exact rfl); (case c4 => exact rfl)); k_whole; intro L1 h1 F1 N1 B1 X1 T1 hroom hunits; (try dsimp only [List.reverse_cons, List.reverse_nil, List.nil_append, List.cons_append]); (try (refine toks_any ?_; intro _)); (try (refine let_m F1 ?_; clear F1; intro m1 F1)); (try k_fold)))
  trivial

section
variable {prog p : Program} {lz : List Str} {w : World} {mean : ExcName → Option Value} {mg mb : Str → Option Value} {dp un : Nat} {gd : Option (List Code)} {base : Heap} {outer : List Env} {n : Nat}
  {Q E : Value → Shared → Prop} {s : Shared}
local macro_rules | `(tactic| walk_at "call builtin:chr") => `(tactic| (k_here; k_dflt (refine' chr_of_range ?h0 ?h1 ?_; (case h0 => first | lia | (simp only [pow10]; lia)); (case h1 => first | lia | (simp only [pow10]; lia)))))
theorem fd6 (x : Int) : x.fdiv 6 = x / 6 := Int.fdiv_eq_ediv_of_nonneg _ (by decide)
theorem FX.exc_at {C : Addr} {k k' : Int} {h₀ : Heap} {P : Addr → Heap → Nat → Prop} (hexc : ∀ e h' tk', FX.Fault base outer C k' h₀ e h' → P e h' tk') (h : k = k') : ∀ e h' tk', FX.Fault base outer C k h₀ e h' → P e h' tk' := h ▸ hexc
/-- vs, its entries' count, the signs, the half that waits -/
noncomputable abbrev UC := List Value × Nat × List Nat × Int × Tok
noncomputable def UP (R : Rdg) (b m : Nat) (us : List Int) (i : Nat) (c : UC) : Prop :=
  pre c.2.2.1 (sc b c.2.2.2.1 (us.drop i) i) = R ∧ StrsAre c.1 (c.2.2.1.map fun d => (⟨#[d]⟩ : PySem.Str)) ∧ (c.2.2.2.1 = 0 ∨ (1 ≤ i ∧ 55296 ≤ c.2.2.2.1 ∧ c.2.2.2.1 ≤ 56319)) ∧ c.2.2.1.length ≤ i
theorem units_end {R : Rdg} {b m : Nat} {us : List Int} {l4 : Addr} {h₀ : Heap} {L : Addr} {own : List (Addr × Obj)} {x : Str} {stored : List Str} {m₀ m' : Str → Option Value} {pre' : List Int} {i : Nat} {s₁ : Shared} {h' : Heap} {tk : Nat} {ws : List Value} {e : Nat} {ds' : List Nat} {hi' : Int} {th : Tok}
    (F : Fr h₀ L h' m') (N : News h₀ L h' ((l4, W.listOf ws.toArray e) :: own)) (hk : m' (Str.ofString "high") = some (.int hi' th)) (hr : ∀ z, z ≠ x → z ≠ Str.ofString "high" → stored.contains z = false → m' z = m₀ z)
    (hl : pre'.length = i) (h1 : pre ds' (sc b hi' (us.drop i) i) = R) (h2 : StrsAre ws (ds'.map fun d => (⟨#[d]⟩ : PySem.Str))) (h3 : hi' = 0 ∨ (1 ≤ i ∧ 55296 ≤ hi' ∧ hi' ≤ 56319)) (h4 : ds'.length ≤ i) :
    InvEndN h₀ L (KstS (fun c : UC => [(l4, W.listOf c.1.toArray c.2.1)]) (fun c => [(Str.ofString "high", .int c.2.2.2.1 c.2.2.2.2)]) (fun _ => True) x stored m₀ (fun pre' c => UP R b m us pre'.length c) pre') own [l4] s₁ { s₁ with heap := h', toks := tk } :=
  kst_end (ws, e, ds', hi', th) F N (fun p hp => by rw [List.mem_singleton.mp hp]; exact .head _) (fun p hp => .tail _ hp) rfl trivial (fun p hp => by cases List.mem_singleton.mp hp; exact hk) (fun z hz1 hz2 hz3 => hr z hz1 (hz2 _ (.head _)) hz3) (by subst hl; exact ⟨h1, h2, h3, h4⟩)
theorem units_drop {rs : List Int} {m i : Nat} (h : i < m) : (unitsOf rs m).drop i = unitAt rs i :: (unitsOf rs m).drop (i + 1) := by
  rw [List.drop_eq_getElem_cons (by simpa [unitsOf] using h)]
  simp [unitsOf]
theorem at_here {b i : Nat} {k : Int} (hk : k = 0 + (i : Int) * 2) : (b : Int) + k * 8 / 6 = ((b + 16 * i / 6 : Nat) : Int) := by
  rw [show k * 8 = ((16 * i : Nat) : Int) by rw [hk]; omega]; rfl
theorem at_back {b i : Nat} {k : Int} (hk : k = 0 + (i : Int) * 2) (hi : 1 ≤ i) : (b : Int) + (k - 2) * 8 / 6 = ((b + 16 * (i - 1) / 6 : Nat) : Int) := by
  obtain ⟨j, rfl⟩ : ∃ j, i = j + 1 := ⟨i - 1, (Nat.sub_add_cancel hi).symm⟩
  exact at_here (by rw [hk]; show _ = 0 + (j : Int) * 2; omega)
theorem pair_in {m i n : Nat} {k : Int} (hn : n = 2 * m) (h : i < m) (hk : k = 0 + (i : Int) * 2) : 0 ≤ k ∧ k + 1 < (n : Int) ∧ k < (n : Int) ∧ 0 ≤ k + 1 := by omega
set_option maxHeartbeats 4000000 in
theorem cx_units_text {r : Array UInt8} {rs : List Int} {t t1 : Tok} {m : Nat} {b : Nat} (S : Sit p lz w mean mg mb dp un gd base outer (n + 3) s.heap)
  (hr : KBw.bInts r = rs) (hm : rs.length = 2 * m) (hk : rs.length ≤ 200000) (hb : b ≤ 200000)
  (hret : ∀ ds, sc b 0 (unitsOf rs m) 0 = .ok ds → ∀ t h' tk', s.heap.StaysIn h' → Q (.str ⟨ds.toArray⟩ t) { s with heap := h', toks := tk' })
  (hexc : ∀ k : Nat, sc b 0 (unitsOf rs m) 0 = .error k → ∀ e h' tk', FX.Fault base outer 64 k s.heap e h' → E (.ref e) { s with heap := h', toks := tk' }) :
  wpAny (model prog w) (ar dp un gd outer) (call (.ref 151) [.bytes r t, .int b t1]) Q E s := by
  k_dflt refine' enterS (binds := [(Str.ofString "raw", .bytes r t), (Str.ofString "begin", .int b t1)]) S ?k6 ?k7 ?k9 ?kB ?c2 ?c3 ?c4 ?c5 ?_
  walk_at "enter_s"
  k_steps
  (rename IsRange _ _ _ _ _ _ _ _ => hr4); (rename Fr _ _ _ _ => F4); (rename News _ _ _ _ => N4)
  have hn : Builtin.Range.rangeSize 0 ((rs.length : Nat) : Int) 2 = (m : Int) := by
    rw [rangeSize_pos (by lia) (by lia)]; lia
  generalize hR : sc b 0 (unitsOf rs m) 0 = R at hret hexc
  have hkm : rs.length = 2 * m := hm
  have hkb : rs.length ≤ 1099511627776 := Nat.le_trans hk (by decide)
  refine' kst_rangeS (σ := UC) (n := m) (fun c => [(_, W.listOf c.1.toArray c.2.1)]) (fun c => [(Str.ofString "high", .int c.2.2.2.1 c.2.2.2.2)]) (fun _ => True) [Str.ofString "at", Str.ofString "code"] (fun pre' c => UP R b m (unitsOf rs m) pre'.length c) ⟨[], 0, [], 0, ?tk0⟩ rfl hr4 (small_step (by lia) (by lia) (by lia) (by lia)) hn F4 N4 trivial ?hk0 ⟨(pre_nil _).trans hR, .nil, .inl rfl, Nat.zero_le _⟩ ?_ ?_
  case hk0 => intro p hp; cases List.mem_singleton.mp hp; rfl
  · rintro ⟨vs, k1, ds0, hi, th⟩ pre' k t u h tk own e hlt hoff _ ⟨hp1, hp2, hp3, hp4⟩ F N
    dsimp only at hp1 hp2 hp3 hp4 F N
    rw [units_drop hlt] at hp1
    have ek : k.toNat = 2 * pre'.length := by lia
    have ek1 : (k + 1).toNat = 2 * pre'.length + 1 := by lia
    have hrin : KBa.In rs := fun x hx => KBw.ints_in (b := r) (hr.symm ▸ hx)
    have hA := KBw.getD_in (j := 2 * pre'.length) hrin
    have hB := KBw.getD_in (j := 2 * pre'.length + 1) hrin
    unfold unitAt at hp1
    rw [← ek1, ← ek] at hp1
    rw [← ek] at hA
    rw [← ek1] at hB
    have hvl := hp2.length
    simp only [List.length_map] at hvl
    obtain ⟨hk0, hk1, hk2, hk3⟩ := pair_in hkm hlt e
    have hpl : (pre' ++ [k]).length = pre'.length + 1 := by simp
    generalize pre'.length = i at *
    k_steps
    · (rename ¬ (56320 ≤ _ ∧ _) => c1)
      rw [sc_lone (by assumption) c1] at hp1
      exact FX.raise_end (by assumption) (by assumption) (by assumption) (by assumption) (by assumption) (by assumption) (.inr rfl) (FX.exc_at (hexc _ hp1.symm) (by rw [fd6]; exact at_back e (hp3.resolve_left (Int.ne_of_gt (by assumption))).1))
    · (rename (56320 ≤ _ ∧ _) => c1); (rename News _ _ _ _ => nE); simp only [List.push_toArray, pow10] at nE
      rw [sc_pair (by assumption) c1.1 c1.2, pre_pre] at hp1
      exact units_end (by assumption) nE (by with_unfolding_all rfl) (by walk_at "hrs") hpl hp1 (strs_snoc hp2 _ _) (.inl rfl) (by simp; lia)
    all_goals have h00 : hi = 0 := hp3.resolve_right fun q => absurd (Int.lt_of_lt_of_le (show (0 : Int) < 55296 by decide) q.2.1) (by assumption)
    · (rename (55296 ≤ _ ∧ _) => c1); (rename News _ _ _ _ => nE)
      rw [h00, sc_high c1.1 c1.2] at hp1
      exact units_end (by assumption) nE (by with_unfolding_all rfl) (by walk_at "hrs") hpl hp1 hp2 (.inr ⟨by lia, c1⟩) (by lia)
    · (rename (decide _ && decide _) = true => c9); simp only [Bool.and_eq_true, decide_eq_true_eq] at c9
      rw [h00, sc_half (by lia) c9.2] at hp1
      exact FX.raise_end (by assumption) (by assumption) (by assumption) (by assumption) (by assumption) (by assumption) (.inr rfl) (FX.exc_at (hexc _ hp1.symm) (by rw [fd6]; exact at_here e))
    · (rename (decide _ && decide _) = true => c9); simp only [Bool.and_eq_true, decide_eq_true_eq] at c9
      rw [h00, sc_plain c9.1 c9.2] at hp1
      exact FX.raise_end (by assumption) (by assumption) (by assumption) (by assumption) (by assumption) (by assumption) (.inr rfl) (FX.exc_at (hexc _ hp1.symm) (by rw [fd6]; exact at_here e))
    · (rename (decide (32 ≤ _) && decide _) = false => c9); (rename (decide (55296 ≤ _) && decide _) = false => c8); simp only [Bool.and_eq_false_iff, decide_eq_false_iff_not] at c8 c9
      (rename News _ _ _ _ => nE); simp only [List.push_toArray] at nE
      rw [h00, sc_one (by lia) (by lia), pre_pre] at hp1
      exact units_end (by assumption) nE (by with_unfolding_all rfl) (by walk_at "hrs") hpl (by rw [h00]; exact hp1) (strs_snoc hp2 _ _) (.inl h00) (by simp; lia)
  · rintro ⟨vs, k, ds0, hi, th⟩ u h tk pre' e _ ⟨hp1, hp2, hp3, hp4⟩ F N
    dsimp only at hp1 hp2 hp3 hp4 F N
    rw [e, List.drop_of_length_le (by simp [unitsOf])] at hp1
    rw [sc] at hp1
    have hvl := hp2.length
    simp only [List.length_map] at hvl
    k_steps
    · rw [if_pos (by assumption)] at hp1
      exact FX.raise_end (by assumption) (by assumption) (by assumption) (by assumption) (by assumption) (by assumption) (.inr rfl) (FX.exc_at (hexc _ hp1.symm) (by rw [fd6]; exact at_back (by rw [hm]; omega) (e ▸ (hp3.resolve_left (Int.ne_of_gt (by assumption))).1)))
    · rw [if_neg (by assumption)] at hp1
      have hds : R = .ok ds0 := by rw [← hp1]; exact congrArg Except.ok (List.append_nil _)
      refine KT.join_1 (ys := vs) (l := ds0) (g := fun d => (⟨#[d]⟩ : PySem.Str)) ⟨_, (N _ (.head _)).1, rfl, _, rfl⟩ (by have := hp2.carried; rw [List.map_map] at this; exact this) (fun _ _ => rfl) (by lia) fun t' k' _ => ?_
      rw [join_singles]
      k_steps
      exact hret ds0 hds _ _ _ (Fr.keep (by assumption))
end

section
variable {prog p : Program} {lz : List Str} {w : World} {mean : ExcName → Option Value} {mg mb : Str → Option Value} {dp un : Nat} {gd : Option (List Code)} {base : Heap} {outer : List Env} {n : Nat}
  {Q E : Value → Shared → Prop} {s : Shared}
set_option maxHeartbeats 2000000 in
theorem cx_part_decoded {b al : Array UInt8} {ks : List Int} {ns : List Nat} {t t' : Tok} (S : Sit p lz w mean mg mb dp un gd base outer (n + 4) s.heap)
  (hb : KBw.bInts b = ks) (ha : KBw.bInts al = sgn) (hks : ks = ns.map fun j => sgn.getD j 0) (hns : ∀ j ∈ ns, j < 64) (hk : ks.length ≤ 100000)
  (hret : (∀ i, i < (ns.length + 3) / 4 → GoodGroup (((nInts ns).drop (4 * i)).take 4)) → ∀ b' t h' tk', s.heap.StaysIn h' → KBw.bInts b' = (pDecL (nInts ns) ((ns.length + 3) / 4)).flatten → Q (.bytes b' t) { s with heap := h', toks := tk' })
  (hexc : ∀ i, i < (ns.length + 3) / 4 → ¬ GoodGroup (((nInts ns).drop (4 * i)).take 4) → ∀ e h' tk', FX.Fault base outer 52 (4 * (i : Int) + (((nInts ns).drop (4 * i)).take 4).length - 1) s.heap e h' → E (.ref e) { s with heap := h', toks := tk' }) :
  wpAny (model prog w) (ar dp un gd outer) (call (.ref 102) [.bytes b t, .bytes al t']) Q E s := by
  k_dflt refine' enterS (binds := [(Str.ofString "signs", .bytes b t), (Str.ofString "alphabet", .bytes al t')]) S ?k6 ?k7 ?k9 ?kB ?c2 ?c3 ?c4 ?c5 ?_
  walk_at "enter_s"
  k_steps
  have hkn : ks.length = ns.length := by rw [hks]; simp
  have hyl : ys8.length = ns.length := by have := i8.length; simpa using this
  have hyb : ys8.toArray.size ≤ 100000 := by simp; lia
  have hnl : (nInts ns).length = ns.length := by simp [nInts]
  change IntsAre ys8 (nInts ns) at i8
  have hn : Builtin.Range.rangeSize 0 (((nInts ns).length : Nat) : Int) 4 = (((ns.length + 3) / 4 : Nat) : Int) := by
    rw [rangeSize_pos (by lia) (by lia), hnl]; lia
  have hnv : ∀ k ∈ nInts ns, 0 ≤ k ∧ k < 64 := by
    intro k hk
    obtain ⟨j, hj, rfl⟩ := List.mem_map.mp hk
    have := hns j hj; lia
  generalize nInts ns = is at *
  k_steps
  (rename IsRange _ _ _ _ _ _ _ _ => hr4); (rename Fr _ _ _ _ => F4); (rename News _ _ _ _ => N4); (rename (_ < _ ∧ _ < _) => l1')
  refine kst_rangeS (σ := List Value × Nat) (n := (ns.length + 3) / 4) (fun c => [(_, W.listOf c.1.toArray c.2), (l8, W.listOf ys8.toArray x8), (d7, o7)]) (fun _ => []) (fun _ => True) [Str.ofString "group", Str.ofString "octets", Str.ofString "spare"] (fun pre c => BJ.BytesAre c.1 (pDecL is pre.length) ∧ ∀ j, j < pre.length → GoodGroup ((is.drop (4 * j)).take 4)) ⟨[], 0⟩ rfl hr4 (small_step (by lia) (by lia) (by lia) (by lia)) hn F4 N4 trivial (fun _ h => nomatch h) ⟨.nil, fun _ h => absurd h (Nat.not_lt_zero _)⟩ ?_ ?_
  · rintro ⟨vs, k1⟩ pre k t u h tk own e hlt hoff _ ⟨hp, hpg⟩ F N
    dsimp only at hp hpg F N
    have hx := hexc pre.length hlt
    have hsl : List.take (min (k + 4).toNat is.length - k.toNat) (List.drop k.toNat is) = (is.drop (4 * pre.length)).take 4 := by
      have e1 : k.toNat = 4 * pre.length := by lia
      have e2 : (k + 4).toNat = 4 * pre.length + 4 := by lia
      rw [e1, e2]
      exact take_clip _ _ _
    have hv5 : ∀ k ∈ (is.drop (4 * pre.length)).take 4, 0 ≤ k ∧ k < 64 := fun k hk => hnv k (List.mem_of_mem_drop (List.mem_of_mem_take hk))
    have hds : pDecL is (pre.length + 1) = pDecL is pre.length ++ [gOcts ((is.drop (4 * pre.length)).take 4)] := by simp [pDecL, List.range_succ]
    have hg4 : ((is.drop (4 * pre.length)).take 4).length ≤ 4 ∧ 1 ≤ ((is.drop (4 * pre.length)).take 4).length := by simp; lia
    have hgn : GoodGroup ((is.drop (4 * pre.length)).take 4) → ∀ j, j < (pre ++ [k]).length → GoodGroup ((is.drop (4 * j)).take 4) := fun q j hj => by
      rw [List.length_append, List.length_singleton] at hj
      rcases Nat.lt_or_ge j pre.length with h1 | h1
      · exact hpg j h1
      · obtain rfl : j = pre.length := by lia
        exact q
    generalize (is.drop (4 * pre.length)).take 4 = gr at hx hsl hv5 hds hg4 hgn
    have hgl := congrArg List.length hsl
    have hvl := hp.len
    have hvl2 : (pDecL is pre.length).length = pre.length := by simp [pDecL]
    k_steps
    · have hg1 : gr.length = 1 := by lia
      exact FX.raise_end (by assumption) (by assumption) (by assumption) (by assumption) (by assumption) (by assumption) (.inl rfl) (FX.exc_at (hx fun q => by have := q.1; lia) (by lia))
    (rename IntsAre _ (List.take _ _) => hI5)
    (rename (∀ p : Addr × Obj, p ∈ _ → p.1 < _) => l5)
    rw [hsl] at hI5
    (rename Fr _ _ _ _ => F5); (rename News _ _ _ _ => N5)
    have hg2 : 2 ≤ gr.length := by lia
    k_dflt refine' ct_group_octets (Sit.use ?B ?F ?X ?T ?r ?u) ⟨_, (N5 _ (.head _)).1, rfl, _, rfl⟩ hI5 hg2 hg4.1 hv5 ?_
    walk_at "sit"
    intro l9 b9 t9 u9 h9 tk9 k9 e9 f9 i9
    have F6 := fr_stays F5 k9
    have N6 := news_add F5 N5 k9 e9 f9
    have n9 := news_ne N5 f9
    clear e9 f9
    have hnn : 0 ≤ wTot gr % 2 ^ (8 - 2 * gr.length) := Int.emod_nonneg _ (Int.ne_of_gt (Int.pow_pos (by decide)))
    k_steps
    · exact FX.raise_end (by assumption) (by assumption) (by assumption) (by assumption) (by assumption) (by assumption) (.inl rfl) (FX.exc_at (hx fun q => by have := q.2; lia) (by lia))
    (rename Fr _ _ _ _ => F6); (rename News _ _ _ _ => N6)
    refine append_K F6 N6 (.tail (fun q => n9 _ (.tail _ (.head _)) q.symm) (.tail (Nat.ne_of_gt (l5 _ (.head _))) (.head fun p hp => by
      rcases List.mem_cons.mp hp with rfl | hp
      · exact Nat.ne_of_lt l1'.1
      · rcases List.mem_cons.mp hp with rfl | hp
        · exact Nat.ne_of_lt l1'.2
        · exact hoff p hp _ (.head _)))) (fun h10 F10 N10 => ?_) (by rw [sizeLine_eq]; simp; lia)
    k_steps
    (rename News _ _ _ _ => nE); simp only [List.push_toArray] at nE
    (with_unfolding_all refine' kst_end (vs ++ [Value.bytes b9 t9], _) ?hF ?hN ?hn ?ho ?ha ?hf ?hk ?hr ?hp); walk_at "inv_end"
    refine ⟨?_, hgn ⟨hg2, by lia⟩⟩
    rw [List.length_append, List.length_singleton, hds]
    exact hp.snoc i9
  · rintro ⟨vs, k⟩ u h tk pre e _ ⟨hp, hpg⟩ F N
    dsimp only at hp hpg F N
    rw [e] at hp hpg
    have hfl : ((pDecL is ((ns.length + 3) / 4)).map (·.length)).sum ≤ 16777216 := by
      have := pDecL_sum is ((ns.length + 3) / 4); lia
    k_steps
    refine BJ.joinN N (.head _) hp (by rw [sizeLine_eq]; exact hfl) fun b' t' k' e' => ?_
    k_steps
    exact hret hpg _ _ _ _ (Fr.keep (by assumption)) e'
end

/-! catching an exception of the text, and raising another in the suite -/
namespace FX
/-- held at the frame L -/
structure HeldF (base : Heap) (l : List Env) (C : Addr) (k : Int) (L : Addr) (h₁ : Heap) (e : Addr) (h : Heap) : Prop where
  fly : ∃ a0, Heap.HeldW base l e (.ref C) a0 L h
  has : HasAt e k h
  up : h₁.UpToSlots h
  bare : C = 52 → Bare e h
section
variable {M : Model} {A : Around} {E : Value → Shared → Prop} {s : Shared} {base h₀ h₁ g h : Heap} {outer l : List Env} {L a e C : Addr} {m : Str → Option Value} {k : Int} {Q : Unit → Shared → Prop} {env : Env}
theorem note_next (hA : A.frames = some (env :: outer)) (hf : env.frame = some L) (x : Fault base (env :: outer) C k h₁ e s.heap)
    (hQ : ∀ h', HeldF base (env :: outer) C k L h₁ e h' → Q () { s with heap := h' }) : wpAny M A (noteFrame (.ref e) env) Q E s := by
  obtain ⟨⟨a0, fl⟩, ha, up, hb⟩ := x
  refine wpAny_mono (wpAny_kd KD.noteFrame (Q := fun _ s'' => ∃ h', s'' = { s with heap := h' } ∧ Heap.HeldW base (env :: outer) e (.ref C) a0 L h' ∧ s.heap.UpToSlots h') ?_) (E' := E) ?_ fun e' s'' z => z.1
  · exact wpAny_looks_onW hA hf fl fun h' hf hu => ⟨h', rfl, hf, hu⟩
  · rintro _ s'' ⟨⟨h', rfl, hf, hu⟩, hd⟩
    exact hQ h' ⟨⟨a0, hf⟩, ha.on hu hd, up.trans hu, fun q => (hb q).on hd⟩
theorem land (x : HeldF base l C k L h₁ e s.heap) (hQ : ∀ h', Fault base l C k h₁ e h' → Q () { s with heap := h' }) : wpAny M A (setFlight (.ref e) none) Q E s := by
  obtain ⟨⟨a0, fl⟩, ha, up, hb⟩ := x
  refine wpAny_mono (wpAny_kd KD.setFlight (Q := fun _ s'' => ∃ h', s'' = { s with heap := h' } ∧ Heap.FlyingW base l e (.ref C) a0 h' ∧ s.heap.UpToSlots h') ?_) (E' := E) ?_ fun e' s'' z => z.1
  · exact wpAny_landsW fl fun h' hf hu => ⟨h', rfl, hf, hu⟩
  · rintro _ s'' ⟨⟨h', rfl, hf, hu⟩, hd⟩
    exact hQ h' ⟨⟨a0, hf⟩, ha.on hu hd, up.trans hu, fun q => (hb q).on hd⟩
theorem land_again (x : Fault base l C k h₁ e s.heap) (hQ : ∀ h', Fault base l C k h₁ e h' → Q () { s with heap := h' }) : wpAny M A (setFlight (.ref e) none) Q E s := by
  obtain ⟨⟨a0, fl⟩, ha, up, hb⟩ := x
  refine wpAny_mono (wpAny_kd KD.setFlight (Q := fun _ s'' => ∃ h', s'' = { s with heap := h' } ∧ Heap.FlyingW base l e (.ref C) a0 h' ∧ s.heap.UpToSlots h') ?_) (E' := E) ?_ fun e' s'' z => z.1
  · exact lands_againW fl fun h' hf hu => ⟨h', rfl, hf, hu⟩
  · rintro _ s'' ⟨⟨h', rfl, hf, hu⟩, hd⟩
    exact hQ h' ⟨⟨a0, hf⟩, ha.on hu hd, up.trans hu, fun q => (hb q).on hd⟩
theorem note_first {oe : Obj} {vs : Array Value} {a0 : Value} (hA : A.frames = some (env :: outer)) (hl : s.heap.FunFrames base (env :: outer)) (hf : env.frame = some L) (hs : base.StaysIn s.heap) (hen : base.get? e = none)
    (he : s.heap.get? e = some oe) (hc : oe.cls = .ref C) (hd : oe.data = .fields vs) (h1 : vs[1]? = some .none) (h0 : vs[0]? = some a0) (ha : HasAt e k s.heap) (hb : C ≠ 52) (up : g.UpToSlots s.heap)
    (hQ : ∀ h', HeldF base (env :: outer) C k L g e h' → s.heap.UpToSlots h' → Q () { s with heap := h' }) : wpAny M A (noteFrame (.ref e) env) Q E s := by
  refine wpAny_mono (wpAny_kd KD.noteFrame (Q := fun _ s'' => ∃ h', s'' = { s with heap := h' } ∧ Heap.NotedW base (env :: outer) e oe.cls a0 (rawInt L) s.heap h') ?_) (E' := E) ?_ fun e' s'' z => z.1
  · unfold noteFrame
    simp only [hf]
    refine wpAny_bind (wpAny_field he hd h1 ?_)
    rw [if_neg (by decide)]
    exact wpAny_entryW hA hl hf he hs hen hd (Array.getElem?_eq_some_iff.mp h1).1 h0 fun h' hn => ⟨h', rfl, hn⟩
  · rintro _ s'' ⟨⟨h', rfl, n1, n2, n3, n4⟩, hd'⟩
    have hu : s.heap.UpToSlots h' := n4
    exact hQ h' ⟨⟨a0, n1, hen, n2, hc ▸ n3⟩, ha.on hu hd', up.trans hu, fun q => absurd q hb⟩ hu
/-- the frame's names change -/
theorem HeldF.same {h' : Heap} {m' : Str → Option Value} (x : HeldF base (env :: outer) C k L g e h) (hf : env.frame = some L) (hbL : base.get? L = none) (hn : h.Ns L m) (hat : m "at" = none) (hn' : h'.Ns L m') (hs : Heap.SameBut L h h')
    (hg : g.get? L = none) (hr : g.FunFrames base outer) (hb : C ≠ 52) : HeldF base (env :: outer) C k L g e h' := by
  obtain ⟨⟨a0, k1, k2, k3, oe, vs, T, oT, ts, he, hc, hd, h1, hnT, hTe, hT, hdT, h3⟩, ⟨oe', dx, mA, u, he', hd', hne, hns, ha⟩, up, _⟩ := x
  have hnd := hn
  obtain ⟨oL, es, ep, hL, hLd, _, hLf⟩ := hnd
  have neL : ∀ b o vs, h.get? b = some o → o.data = .fields vs → b ≠ L := fun b o vs q1 q2 q => by
    rw [q, hL] at q1; cases q1; rw [hLd] at q2; cases q2
  have up' : g.UpToSlots h' := fun b o q1 q2 => by
    obtain ⟨sl, q3⟩ := up b o q1 q2
    exact ⟨sl, (hs.2 b fun q => by rw [q, hg] at q1; cases q1).trans q3⟩
  refine ⟨⟨a0, fun b o q => (hs.2 b fun z => by rw [z, hbL] at q; cases q).trans (k1 b o q), k2, Heap.FunFrames.cons k3.1 hf hn' hbL (hr.of_keeps fun b o q1 q2 => ?_), oe, vs, T, oT, ts, (hs.2 _ (neL _ _ _ he hd)).trans he, hc, hd, h1, hnT, hTe, (hs.2 _ (neL _ _ _ hT hdT)).trans hT, hdT, h3⟩, ⟨oe', dx, mA, u, ?_, hd', hne, ?_, ha⟩, up', fun q => absurd q hb⟩
  · obtain ⟨sl, q3⟩ := up' b o q1 q2
    exact ⟨_, q3, rfl⟩
  · obtain rfl : oe' = oe := Option.some.inj (he'.symm.trans he)
    exact (hs.2 _ (neL _ _ _ he hd)).trans he
  · refine hns.at fun o q => (hs.2 _ fun z => ?_).trans q
    obtain ⟨o2, es2, _, q2, d2, _, _, f2⟩ := hns
    rw [z, hL] at q2
    cases q2
    rw [hLd] at d2
    cases d2
    have := (hLf "at").symm.trans (f2 "at")
    rw [hat, ha] at this
    cases this
theorem HeldF.head (x : HeldF base l C k L h₁ e h) : ∃ oe vs T oT ts, h.get? e = some oe ∧ oe.data = .fields vs ∧ vs[1]? = some (.ref T) ∧ h.get? T = some oT ∧ oT.data = .fields ts ∧ ts[3]? = some (rawInt L) := by
  obtain ⟨⟨_, _, _, _, oe, vs, T, oT, ts, he, _, hd, h1, _, _, hT, hdT, h3⟩, _, _, _⟩ := x
  exact ⟨oe, vs, T, oT, ts, he, hd, h1, hT, hdT, h3⟩
/-- its place is set once more to where it is -/
theorem set_held (x : HeldF base l C k L h₁ e s.heap) (hb : C ≠ 52) (hQ : ∀ h', HeldF base l C k L h₁ e h' → Q () { s with heap := h' }) : wpAny M A (setFlight (.ref e) (some L)) Q E s := by
  obtain ⟨⟨a0, k1, k2, k3, oe, vs, T, oT, ts, he, hc, hd, h1, hnT, hTe, hT, hdT, h3⟩, ha, up, _⟩ := x
  have h3s := (Array.getElem?_eq_some_iff.mp h3).1
  let f : Obj → Obj := Obj.mapFields (·.setIfInBounds 3 (rawInt L))
  have hoT : ∀ b, b ≠ T → (s.heap.update T f).get? b = s.heap.get? b := fun b q => Heap.get?_update_other _ _ (Ne.symm q)
  have hrec : ∀ b o, s.heap.get? b = some o → (∀ vs, o.data ≠ .fields vs) → b ≠ T := fun b o q1 q2 q => by
    rw [q, hT] at q1; cases q1; exact q2 ts hdT
  have hu : s.heap.UpToSlots (s.heap.update T f) := fun b o q1 q2 => ⟨o.slots, (hoT b (hrec b o q1 q2)).trans q1⟩
  have hdd : KeepD s.heap (s.heap.update T f) := KeepD.update (mapFields_kd (by decide))
  unfold setFlight
  refine wpAny_bind (wpAny_field he hd h1 ?_)
  rw [if_pos (by simp)]
  refine wpAny_setField hT hdT h3s (hQ _ ⟨⟨a0, fun b o q => (hoT b fun z => by rw [z, hnT] at q; cases q).trans (k1 b o q), k2, k3.of_keeps fun b o q1 q2 => ⟨o, (hoT b (hrec b o q1 q2)).trans q1, rfl⟩, oe, vs, T, _, _, (hoT e (Ne.symm hTe)).trans he, hc, hd, h1, hnT, hTe, Heap.get?_update_self _ hT (Obj.isFreed_of_fields (Obj.data_mapFields hdT _)), Obj.data_mapFields hdT _, ?_⟩, ha.on hu hdd, up.trans hu, fun q => absurd q hb⟩)
  simp [h3s]
theorem note_held_again (x : HeldF base l C k L h₁ e s.heap) (hf : env.frame = some L) (h : Q () s) : wpAny M A (noteFrame (.ref e) env) Q E s := by
  obtain ⟨⟨a0, _, _, _, ht⟩, _⟩ := x
  exact wpAny_noteFrame_againW hf ht h
theorem pass_on {α : Type} {what : String} {Q : α → Shared → Prop} (x : HeldF base l C k L h₁ e s.heap) (hf : env.frame = some L) (hb : C ≠ 52) (hE : ∀ h', HeldF base l C k L h₁ e h' → E (.ref e) { s with heap := h' }) :
    wpAny M A (PySem.passOn what (.ref e) env) Q E s := by
  obtain ⟨oe, vs, T, oT, ts, he, hd, h1, _⟩ := x.head
  unfold PySem.passOn
  refine wpAny_bind (wpAny_field he hd h1 ?_)
  rw [if_neg (by simp), hf]
  first
    | exact wpAny_bind (wpAny_pure (wpAny_bind (set_held x hb fun h' y => wpAny_throw (hE h' y))))
    | exact wpAny_bind (set_held x hb fun h' y => wpAny_throw (hE h' y))
theorem came_back (x : HeldF base l C k L h₁ e s.heap) (hf : env.frame = some L) (hb : C ≠ 52) (hE : ∀ h', HeldF base l C k L h₁ e h' → E (.ref e) { s with heap := h' }) : cameBackBy M A env E (.ref e) s := by
  obtain ⟨oe, vs, T, oT, ts, he, hd, h1, _⟩ := x.head
  unfold cameBackBy
  refine wpAny_bind (wpAny_field he hd h1 ?_)
  rw [if_neg (by simp), hf]
  first
    | exact wpAny_bind (wpAny_pure (set_held x hb hE))
    | exact set_held x hb hE
theorem pass_end {C : Addr} {G : Heap} {E : Value → Shared → Prop} {prog : Program} {w : World} {name : Str} {scope : Scope} {a : Addr} {cd : Value} (K : Below A base outer h₀) (F : Fr h₀ L G m) (x : Fault base (envOf name scope L a cd :: outer) C k G e s.heap)
    (hexc : ∀ h', Fault base outer C k h₀ e h' → E (.ref e) { s with heap := h' }) : outE prog w (A.deeper (envOf name scope L a cd)) (envOf name scope L a cd) E (.ref e) s :=
  leave_next K x fun h' z => hexc h' (z.from (Heap.UpToSlots.of_keeps F.keep))
theorem leave_held (x : HeldF base (env :: outer) C k L h₁ e s.heap) (hf : env.frame = some L) (hQ : ∀ h', Fault base outer C k h₁ e h' → Q () { s with heap := h' }) : wpAny M A (leaving env (.ref e)) Q E s := by
  unfold leaving
  refine wpAny_bind (note_held_again x hf (land x fun h' y => hQ h' ⟨?_, y.has, y.up, y.bare⟩))
  obtain ⟨⟨a0, k1, k2, ⟨_, _, k3⟩, k4⟩, _⟩ := y
  exact ⟨a0, k1, k2, k3, k4⟩
end
section
variable {prog : Program} {w : World} {A : Around} {E : Value → Shared → Prop} {s : Shared} {env : Env}
/-- what the class of a clause must be, and then the suite -/
noncomputable def CatchEnd (prog : Program) (w : World) (A : Around) (env : Env) (e C : Addr) (n : Str) (pos : Pos) (suite : List Stmt) (Q : Flow → Shared → Prop) (E : Value → Shared → Prop) (c : Value) (s₁ : Shared) : Prop :=
  c = .ref C ∧ Cls s₁.heap C ∧ (∃ oe, s₁.heap.get? e = some oe ∧ oe.cls = .ref C) ∧
      wpAny (model prog w) (A.mark (some (.ref e))) (setFlight (.ref e) none) (fun _ s₂ =>
          wpAny (model prog w) (A.mark (some (.ref e))) (storeName env n (.ref e)) (fun _ s₃ =>
            wpAny (model prog w) (A.mark (some (.ref e))) (execs suite env)
              (fun f s₄ => wpAny (model prog w) A (do bindName env n .none; unbindBehindTheSuite env n pos) (fun _ s₅ => Q f s₅) E s₄)
              (AsSuiteRaised (model prog w) (A.mark (some (.ref e))) env n pos (notedBy (model prog w) (A.mark (some (.ref e))) env (cameBackBy (model prog w) A env E))) s₃) (notedBy (model prog w) (A.mark (some (.ref e))) env (cameBackBy (model prog w) A env E)) s₂) (notedBy (model prog w) (A.mark (some (.ref e))) env (cameBackBy (model prog w) A env E)) s₁
theorem catch_as {e C : Addr} {t : Expr} {n : Str} {b₀ : Stmt} {suite : List Stmt} {pos : Pos} {rest : List ExceptHandler} {Q : Flow → Shared → Prop}
    (h : wpAny (model prog w) (A.mark (some (.ref e))) (eval t env) (CatchEnd prog w A env e C n pos (b₀ :: suite) Q E) (notedBy (model prog w) (A.mark (some (.ref e))) env (cameBackBy (model prog w) A env E)) s) :
    wpAny (model prog w) A (handleBy (.ref e) env (.ExceptHandler (some t) (some n) (b₀ :: suite) pos :: rest)) Q E s := by
  refine wpAny_handleBy_cons (codeAny_handlers_test (wpAny_mono h (fun c s₁ h₁ => ?_) fun _ _ y => y)) (by intro q; cases q)
  obtain ⟨rfl, O, ⟨oe, he, hcls⟩, hk⟩ := h₁
  obtain ⟨⟨N, nm, q, bs, sn, sub, ab, col, dd, k0, k1, k2, k3, k5, mN, hC, _⟩, _⟩ := O
  obtain ⟨hh, g, d, tk, os⟩ := s₁
  exact wpAny_excMatches_sub_self hC he hcls (by decide) (codeAny_handlers_suite_as hk)
end
section
variable {prog : Program} {w : World} {A : Around} {E : Value → Shared → Prop} {s : Shared} {base g h : Heap} {outer : List Env} {L a e x : Addr} {m : Str → Option Value} {name : Str} {scope : Scope} {cd : Value} {k : Int} {n : Str} {pos : Pos}
/-- another exception, raised in the suite, leaves the frame -/
theorem suite_raised {oe : Obj} {vs : Array Value} {a0 : Value} (K : Below A base outer g) (F : Fr g L h m) (hk : ∀ b o, h.get? b = some o → s.heap.get? b = some o) (hx : h.get? x = none) (hat : m "at" = none)
    (hl : (envOf name scope L a cd).kindOf n = some .local) (hs : scope.kind = .function)
    (ho : s.heap.get? x = some oe) (hc : oe.cls = .ref 64) (hd : oe.data = .fields vs) (h1 : vs[1]? = some .none) (h0 : vs[0]? = some a0) (ha : HasAt x k s.heap)
    (hexc : ∀ h' tk', Fault base outer 64 k g x h' → E (.ref x) { s with heap := h', toks := tk' }) :
    AsSuiteRaised (model prog w) ((A.deeper (envOf name scope L a cd)).mark (some (.ref e))) (envOf name scope L a cd) n pos
      (notedBy (model prog w) ((A.deeper (envOf name scope L a cd)).mark (some (.ref e))) (envOf name scope L a cd) (cameBackBy (model prog w) (A.deeper (envOf name scope L a cd)) (envOf name scope L a cd) (outE prog w (A.deeper (envOf name scope L a cd)) (envOf name scope L a cd) E))) (.ref x) s := by
  have K' := K.push (name := name) (a := a) (cd := cd) F hs
  have hA : ((A.deeper (envOf name scope L a cd)).mark (some (.ref e))).frames = some (envOf name scope L a cd :: outer) := Around.frames_deeper K.stack
  have fresh : ∀ b, h.get? b = none → base.get? b = none := fun b hb => by
    cases hq : base.get? b with
    | none => rfl
    | some o' => have := K'.stays b o' hq; rw [hb] at this; cases this
  have gL : g.get? L = none := Heap.get?_none_of_le F.above
  have bL : base.get? L = none := by
    cases hq : base.get? L with
    | none => rfl
    | some o' => have := K.stays L o' hq; rw [gL] at this; cases this
  have up0 : g.UpToSlots s.heap := Heap.UpToSlots.of_keeps fun b o q => hk b o (F.keep b o q)
  have hnS : s.heap.Ns L m := F.ns.keeps hk
  refine note_first hA (K'.frames.of_keeps fun b o q _ => ⟨o, hk b o q, rfl⟩) rfl (fun b o q => hk b o (K'.stays b o q)) (fresh x hx) ho hc hd h1 h0 ha (by decide) up0 fun h1 H1 U1 => ?_
  have hn1 : h1.Ns L m := U1.ns hnS
  refine wpAny_nameGoes hl hn1 (by rw [show (envOf name scope L a cd).scope.kind = scope.kind from rfl, hs]; rfl) fun h2 m2 hn2 hs2 => ?_
  have H2 := H1.same (env := envOf name scope L a cd) rfl bL hn1 hat hn2 hs2 gL K.frames (by decide)
  refine pass_on H2 rfl (by decide) fun h3 H3 => ?_
  refine note_held_again H3 rfl ?_
  refine came_back H3 rfl (by decide) fun h4 H4 => ?_
  exact leave_held H4 rfl fun h5 H5 => hexc h5 _ H5
end
end FX

namespace FX
section
variable {prog p : Program} {lz : List Str} {w : World} {mean : ExcName → Option Value} {mg mb : Str → Option Value} {dp un : Nat} {gd : Option (List Code)} {base h₀ h G : Heap} {outer : List Env} {n : Nat}
  {Q : Unit → Shared → Prop} {E : Value → Shared → Prop} {s : Shared} {L a e C : Addr} {m : Str → Option Value} {cn : Str} {cs : Scope} {ccd : Value} {k : Int}
/-- the heap without the frames that stand -/
noncomputable abbrev bare (G : Heap) (l : List Env) : Heap := hideAll G (l.filterMap (·.frame))
/-- a def that is called where what it raises is caught -/
theorem Sit.useB (B : Below (ar dp un gd outer) base outer h₀) (F : Fr h₀ L s.heap m) (X : (hd.heap_39 w.params).In h₀) (T : Top p lz mean mg mb h₀)
    (room : Room dp (n + 1)) (units : Units un (n + 1)) (hk : cs.kind = .function := by rfl) :
    Sit p lz w mean mg mb (dp + 1) (un + 3) gd (bare s.heap (envOf cn cs L a ccd :: outer)) (envOf cn cs L a ccd :: outer) n s.heap :=
  have K' := B.push (name := cn) (scope := cs) (a := a) (cd := ccd) F hk
  ⟨X.keeps F.keep, T.keeps F.keep, ⟨K'.stack, fun _ _ q => of_hideAll _ q, funFrames_hide K'.frames fun env he b hb => List.mem_filterMap.mpr ⟨env, he, hb⟩⟩, room.deep, units.up (by decide)⟩
/-- the ground under a frame that has caught -/
theorem ground {A : Around} (K : Below A base outer h₀) (F : Fr h₀ L G m) (XB : (hd.heap_39 w.params).In base) (TB : Top p lz mean mg mb base) (x : Fault (bare G (envOf cn cs L a ccd :: outer)) (envOf cn cs L a ccd :: outer) C k G e h) :
    ∃ g, Fr g L h m ∧ Below A base outer g ∧ h₀.UpToSlots g ∧ (hd.heap_39 w.params).In g ∧ Top p lz mean mg mb g ∧ e ≠ L ∧ (∃ oe vs, h.get? e = some oe ∧ oe.cls = .ref C ∧ oe.data = .fields vs) := by
  have hb := x.fly.choose_spec
  obtain ⟨g, T, F', K'⟩ := kts_ground K F (fun b o q nm => hideAll_get _ q nm) hb.1 x.up
  obtain ⟨oL, es, ep, hL, hLd, _⟩ := F'.ns
  obtain ⟨oe, vs, _, _, _, he, hc, hd, _⟩ := hb.2.2.2
  exact ⟨g, F', K', fun b o q _ => T.up q, XB.keeps K'.stays, TB.keeps K'.stays, (fun q => by rw [q, hL] at he; cases he; rw [hLd] at hd; cases hd), oe, vs, he, hc.1, hd⟩
theorem HasAt.same {h h' : Heap} (x : HasAt e k h) (hn : h.Ns L m) (hat : m "at" = none) (he : e ≠ L) (hs : Heap.SameBut L h h') : HasAt e k h' := by
  obtain ⟨oe', dx, mA, u, he', hd', hne, hns, ha⟩ := x
  obtain ⟨oL, es, ep, hL, hLd, _, hLf⟩ := hn
  refine ⟨oe', dx, mA, u, (hs.2 _ he).trans he', hd', hne, hns.at fun o q => (hs.2 _ fun z => ?_).trans q, ha⟩
  obtain ⟨o2, es2, _, q2, d2, _, _, f2⟩ := hns
  rw [z, hL] at q2
  cases q2
  rw [hLd] at d2
  cases d2
  have := (hLf "at").symm.trans (f2 "at")
  rw [hat, ha] at this
  cases this
theorem Bare.same {h h' : Heap} (x : Bare e h) (q : h'.get? e = h.get? e) : Bare e h' := by
  obtain ⟨oe, vs, he, r⟩ := x
  exact ⟨oe, vs, q.trans he, r⟩
/-- the name of the exception is bound -/
theorem bind_at {M : Model} {A : Around} {x : Str} {v : Value} (F : Fr h₀ L s.heap m) (hx : HasAt e k s.heap) (hat : m "at" = none) (he : e ≠ L)
    (h : ∀ h', Fr h₀ L h' (fun y => if y = x then some v else m y) → HasAt e k h' → (∀ b, b ≠ L → h'.get? b = s.heap.get? b) → Q () { s with heap := h', toks := s.toks + 1 })
    (hl : (envOf cn cs L a ccd).kindOf x = some .local := by rfl) (hk : cs.kind = .function := by rfl) : wpAny M A (storeName (envOf cn cs L a ccd) x v) Q E s :=
  wpAny_storeName_local hl F.ns (fun h' hn hs => h h' (F.set hn hs) (hx.same F.ns hat he hs) hs.2) (by show (cs.kind == .class || (cs.kind == .module && L != mainGlobals)) = false; rw [hk]; rfl)
/-- its `at` read -/
theorem read_at {A : Around} {expr : Bool} {Q : Value → Shared → Prop} (K : Cls s.heap C) (hx : HasAt e k s.heap) {oe : Obj} {vs : Array Value} (he : s.heap.get? e = some oe) (hc : oe.cls = .ref C) (hd : oe.data = .fields vs)
    (hq : ∀ u, Q (.int k u) { s with toks := s.toks + 1 }) : wpAny (model prog w) A (getAttr (.ref e) "at" expr) Q E s := by
  obtain ⟨oe', dx, mA, u, he', hd', hne, hn, ha⟩ := hx
  obtain rfl : oe' = oe := Option.some.inj (he'.symm.trans he)
  obtain ⟨h, g, d, tk, os⟩ := s
  exact load_attr K (by simp [quiet]) (by kernel_rfl) ⟨oe', he, hc, (fun c q => by rw [hd] at q; cases q), .inr ⟨dx, hd', hne, hn⟩⟩ ha rfl (hq u)
/-- a raise in the suite of an except -/
theorem suite_raise {nn : Str} {pos : Pos} {E : Value → Shared → Prop} {x : PySem.Str} {t u : Tok} (B : Below (ar dp un gd outer) base outer h₀) (F : Fr h₀ L s.heap m) (X : (hd.heap_39 w.params).In h₀) (T : Top p lz mean mg mb h₀)
    (room : Room dp (n + 3)) (units : Units un (n + 3)) (hat : m "at" = none) (hbe : Bare e s.heap)
    (hexc : ∀ e h' tk', Fault base outer 64 k h₀ e h' → E (.ref e) { s with heap := h', toks := tk' }) (hl : (envOf cn cs L a ccd).kindOf nn = some .local := by rfl) (hk : cs.kind = .function := by rfl) :
    wpAny (model prog w) (((ar dp un gd outer).deeper (envOf cn cs L a ccd)).mark (some (.ref e))) (call (.ref 64) [.str x t, .int k u])
      (fun v s₁ => ∃ C, RaisableF (((ar dp un gd outer).deeper (envOf cn cs L a ccd)).mark (some (.ref e))) C
        (AsSuiteRaised (model prog w) (((ar dp un gd outer).deeper (envOf cn cs L a ccd)).mark (some (.ref e))) (envOf cn cs L a ccd) nn pos
          (notedBy (model prog w) (((ar dp un gd outer).deeper (envOf cn cs L a ccd)).mark (some (.ref e))) (envOf cn cs L a ccd) (cameBackBy (model prog w) ((ar dp un gd outer).deeper (envOf cn cs L a ccd)) (envOf cn cs L a ccd)
            (outE prog w ((ar dp un gd outer).deeper (envOf cn cs L a ccd)) (envOf cn cs L a ccd) E)))) v s₁)
      (AsSuiteRaised (model prog w) (((ar dp un gd outer).deeper (envOf cn cs L a ccd)).mark (some (.ref e))) (envOf cn cs L a ccd) nn pos
          (notedBy (model prog w) (((ar dp un gd outer).deeper (envOf cn cs L a ccd)).mark (some (.ref e))) (envOf cn cs L a ccd) (cameBackBy (model prog w) ((ar dp un gd outer).deeper (envOf cn cs L a ccd)) (envOf cn cs L a ccd)
            (outE prog w ((ar dp un gd outer).deeper (envOf cn cs L a ccd)) (envOf cn cs L a ccd) E)))) s := by
  have S := Sit.use (n := n + 2) (cn := cn) (a := a) (ccd := ccd) B F X T room units hk
  have K : Cls s.heap 64 := (cls_of S.kin).2
  refine call_fault (hv := some (.ref e)) S (.inr rfl) fun h' tk' y hyn M => ⟨64, ?_⟩
  obtain ⟨ob, T', ho, hc, hd⟩ := M.obj
  obtain ⟨oe, ve, he, hed, h2⟩ := hbe
  have hey : e ≠ y := fun q => by rw [q, hyn] at he; cases he
  have keep : ∀ b o, s.heap.get? b = some o → h'.get? b = some o := fun b o q => M.keep b o (fun z => by rw [z, hyn] at q; cases q) q
  refine ⟨y, ob, _, rfl, ho, hc, hd, rfl, K.keeps keep, .inr ⟨e, rfl, hey, ⟨oe, ve, keep _ _ he, hed, h2⟩, by simp, ?_⟩⟩
  have hu : h'.UpToSlots (h'.update y (Obj.mapFields (·.setIfInBounds 2 (.ref e)))) := fun b o q1 q2 => ⟨o.slots, (Heap.get?_update_other _ _ fun z => by rw [← z, ho] at q1; cases q1; exact q2 _ hd).trans q1⟩
  have hos : (h'.update y (Obj.mapFields (·.setIfInBounds 2 (.ref e)))).get? y = some (Obj.mapFields (·.setIfInBounds 2 (.ref e)) ob) := Heap.get?_update_self _ ho (Obj.isFreed_of_fields (Obj.data_mapFields hd _))
  have hat' : HasAt y k (h'.update y (Obj.mapFields (·.setIfInBounds 2 (.ref e)))) := by
    obtain ⟨o, dx, mA, u, q1, q2, q3, q4, q5⟩ := M.has
    obtain rfl : o = ob := Option.some.inj (q1.symm.trans ho)
    exact ⟨_, dx, mA, u, hos, (by obtain ⟨_, _, dt, _⟩ := o; cases dt <;> exact q2), q3, ns1_on hu q4, q5⟩
  exact suite_raised B F (fun b o q => (Heap.get?_update_other _ _ fun z => by rw [← z, hyn] at q; cases q).trans (keep b o q)) hyn hat hl hk hos ((Obj.cls_mapFields _ _).trans hc) (Obj.data_mapFields hd _) (by simp) (by simp; rfl) hat'
    fun h'' tk'' z => hexc y h'' tk'' z
end
end FX

/-! plain mathematics: figures to a base -/
noncomputable def num (B : Int) (ds : List Int) : Int := ds.foldl (fun t c => B * t + c) 0
theorem gTot_num (ds : List Int) : gTot ds = num 256 ds := rfl
theorem wTot_num (ds : List Int) : wTot ds = num 64 ds := rfl
theorem num_acc (B : Int) (ks : List Int) : ∀ t : Int, ks.foldl (fun t c => B * t + c) t = t * B ^ ks.length + num B ks := by
  unfold num
  induction ks with
  | nil => intro t; simp
  | cons c ks ih =>
    intro t
    rw [List.foldl_cons, List.foldl_cons, ih, ih (B * 0 + c), List.length_cons, Int.pow_succ, Int.add_mul, Int.mul_zero, Int.zero_add, Int.add_assoc, Int.mul_comm B t, Int.mul_assoc, Int.mul_comm B]
theorem num_app (B : Int) (ks ls : List Int) : num B (ks ++ ls) = num B ks * B ^ ls.length + num B ls := by
  rw [← num_acc]; unfold num; rw [List.foldl_append]
theorem num_cons (B c : Int) (ks : List Int) : num B (c :: ks) = c * B ^ ks.length + num B ks := by
  have := num_app B [c] ks
  simpa [num] using this
theorem num_lt {B : Int} (hB : 0 < B) : ∀ ks : List Int, (∀ k ∈ ks, 0 ≤ k ∧ k < B) → 0 ≤ num B ks ∧ num B ks < B ^ ks.length
  | [] => fun _ => by simp [num]
  | c :: ks => fun h => by
    have ih := num_lt hB ks fun k hk => h k (.tail _ hk)
    have hc := h c (.head _)
    have hp : (0 : Int) < B ^ ks.length := Int.pow_pos hB
    rw [num_cons, List.length_cons, Int.pow_succ, Int.mul_comm _ B]
    have h1 : 0 ≤ c * B ^ ks.length := Int.mul_nonneg hc.1 (Int.le_of_lt hp)
    have h2 : (c + 1) * B ^ ks.length ≤ B * B ^ ks.length := Int.mul_le_mul_of_nonneg_right (Int.add_one_le_of_lt hc.2) (Int.le_of_lt hp)
    rw [Int.add_mul, Int.one_mul] at h2
    lia
theorem digs_num {B : Int} (hB : 0 < B) : ∀ ks : List Int, (∀ k ∈ ks, 0 ≤ k ∧ k < B) → digs B (num B ks) ks.length = ks
  | [] => fun _ => rfl
  | c :: ks => fun h => by
    have ih := digs_num hB ks fun k hk => h k (.tail _ hk)
    have hl := num_lt hB ks fun k hk => h k (.tail _ hk)
    have hc := h c (.head _)
    have hp : ∀ n : Nat, (0 : Int) < B ^ n := fun n => Int.pow_pos hB
    rw [num_cons]
    unfold digs at ih ⊢
    rw [List.length_cons, List.range_succ_eq_map, List.map_cons, List.map_map]
    congr 1
    · show (c * B ^ ks.length + num B ks) / B ^ (ks.length + 1 - 1 - 0) % B = c
      rw [Nat.add_sub_cancel, Nat.sub_zero, Int.add_comm, Int.add_mul_ediv_right _ _ (Int.ne_of_gt (hp _)), Int.ediv_eq_zero_of_lt hl.1 hl.2, Int.zero_add, Int.emod_eq_of_lt hc.1 hc.2]
    · refine Eq.trans (List.map_congr_left fun i hi => ?_) ih
      have hi := List.mem_range.mp hi
      show (c * B ^ ks.length + num B ks) / B ^ (ks.length + 1 - 1 - (i + 1)) % B = num B ks / B ^ (ks.length - 1 - i) % B
      have e : ks.length + 1 - 1 - (i + 1) = ks.length - 1 - i := by lia
      have e2 : B ^ ks.length = B ^ i * B * B ^ (ks.length - 1 - i) := by
        rw [Int.mul_assoc, Int.mul_comm B, ← Int.pow_succ, ← Int.pow_add]; congr 1; lia
      rw [e, e2, ← Int.mul_assoc, Int.add_comm, Int.add_mul_ediv_right _ _ (Int.ne_of_gt (hp _)), ← Int.mul_assoc, Int.add_mul_emod_self_right]
theorem num_digs {B : Int} (hB : 0 < B) : ∀ (n : Nat) (x : Int), 0 ≤ x → x < B ^ n → num B (digs B x n) = x
  | 0, x, h0, h1 => by
    have : x = 0 := by rw [Int.pow_zero] at h1; lia
    subst this; rfl
  | n + 1, x, h0, h1 => by
    have hp : (0 : Int) < B ^ n := Int.pow_pos hB
    have hm := Int.emod_nonneg x (Int.ne_of_gt hp)
    have hm2 := Int.emod_lt_of_pos x hp
    have ih := num_digs hB n (x % B ^ n) hm hm2
    have e : digs B x (n + 1) = x / B ^ n :: digs B (x % B ^ n) n := by
      unfold digs
      rw [List.range_succ_eq_map, List.map_cons, List.map_map]
      congr 1
      · show x / B ^ (n + 1 - 1 - 0) % B = _
        rw [Nat.add_sub_cancel, Nat.sub_zero]
        refine Int.emod_eq_of_lt (Int.ediv_nonneg h0 (Int.le_of_lt hp)) (Int.ediv_lt_of_lt_mul hp ?_)
        rw [Int.mul_comm, ← Int.pow_succ]; exact h1
      · refine List.map_congr_left fun i hi => ?_
        have hi := List.mem_range.mp hi
        show x / B ^ (n + 1 - 1 - (i + 1)) % B = x % B ^ n / B ^ (n - 1 - i) % B
        have e : n + 1 - 1 - (i + 1) = n - 1 - i := by lia
        have e2 : B ^ n = B ^ i * B * B ^ (n - 1 - i) := by
          rw [Int.mul_assoc, Int.mul_comm B, ← Int.pow_succ, ← Int.pow_add]; congr 1; lia
        have e3 : x = x % B ^ n + x / B ^ n * (B ^ i * B) * B ^ (n - 1 - i) := by
          rw [Int.mul_assoc, ← e2, Int.mul_comm]; exact (Int.emod_add_mul_ediv x (B ^ n)).symm
        have hq : (0 : Int) < B ^ (n - 1 - i) := Int.pow_pos hB
        rw [e]
        conv => lhs; rw [e3]
        rw [Int.add_mul_ediv_right _ _ (Int.ne_of_gt hq), ← Int.mul_assoc, Int.add_mul_emod_self_right]
    have hl : (digs B (x % B ^ n) n).length = n := by simp [digs]
    rw [e, num_cons, ih, hl, Int.mul_comm]
    exact Int.mul_ediv_add_emod x (B ^ n)
theorem digs_len (B x : Int) (n : Nat) : (digs B x n).length = n := by simp [digs]
theorem digs_in {B : Int} (hB : 0 < B) (x : Int) (n : Nat) : ∀ d ∈ digs B x n, 0 ≤ d ∧ d < B := by
  intro d hd
  obtain ⟨i, _, rfl⟩ := List.mem_map.mp hd
  exact ⟨Int.emod_nonneg _ (Int.ne_of_gt hB), Int.emod_lt_of_pos _ hB⟩

/-! a shift's groups, and its one number -/
theorem nInts_length (ns : List Nat) : (nInts ns).length = ns.length := by simp [nInts]
theorem nInts_in {ns : List Nat} (h : ∀ j ∈ ns, j < 64) : ∀ k ∈ nInts ns, 0 ≤ k ∧ k < 64 := by
  intro k hk
  obtain ⟨j, hj, rfl⟩ := List.mem_map.mp hk
  have := h j hj; lia
theorem gOcts_digs (g : List Int) : gOcts g = digs 256 (num 64 g / 2 ^ (8 - 2 * g.length)) (g.length - 1) := by
  unfold gOcts digs
  refine List.map_congr_left fun i hi => ?_
  have hi := List.mem_range.mp hi
  rw [show (256 : Int) ^ (g.length - 1 - 1 - i) = 2 ^ (8 * (g.length - 2 - i)) by rw [Int.pow_mul]; congr 1]
  rfl
theorem p64 (n : Nat) : (64 : Int) ^ n = 2 ^ (6 * n) := by rw [Int.pow_mul]; rfl
theorem p256 (n : Nat) : (256 : Int) ^ n = 2 ^ (8 * n) := by rw [Int.pow_mul]; rfl
/-- a good group's octets are its number -/
theorem gOcts_num {g : List Int} (h : ∀ k ∈ g, 0 ≤ k ∧ k < 64) (hg : GoodGroup g) (h4 : g.length ≤ 4) : num 256 (gOcts g) * 2 ^ (8 - 2 * g.length) = num 64 g := by
  obtain ⟨h2, hm⟩ := hg
  have hl := num_lt (by decide) g h
  have hp : (0 : Int) < 2 ^ (8 - 2 * g.length) := Int.pow_pos (by decide)
  have e : (64 : Int) ^ g.length = 256 ^ (g.length - 1) * 2 ^ (8 - 2 * g.length) := by
    rw [p64, p256, ← Int.pow_add]; congr 1; lia
  rw [gOcts_digs, num_digs (by decide) _ _ (Int.ediv_nonneg hl.1 (Int.le_of_lt hp)) (Int.ediv_lt_of_lt_mul hp (by rw [← e]; exact hl.2))]
  exact Int.ediv_mul_cancel (Int.dvd_of_emod_eq_zero hm)
theorem pDecL_succ (is : List Int) (i : Nat) : pDecL is (i + 1) = pDecL is i ++ [gOcts ((is.drop (4 * i)).take 4)] := by simp [pDecL, List.range_succ]
theorem group_mem {is : List Int} {i : Nat} (h : ∀ k ∈ is, 0 ≤ k ∧ k < 64) : ∀ k ∈ (is.drop (4 * i)).take 4, 0 ≤ k ∧ k < 64 := fun k hk => h k (List.mem_of_mem_drop (List.mem_of_mem_take hk))
theorem take_group (is : List Int) (i : Nat) : is.take (4 * (i + 1)) = is.take (4 * i) ++ (is.drop (4 * i)).take 4 := by rw [Nat.mul_add, List.take_add]
/-- the full groups -/
theorem full_num {is : List Int} (h : ∀ k ∈ is, 0 ≤ k ∧ k < 64) : ∀ i : Nat, 4 * i ≤ is.length → num 256 (pDecL is i).flatten = num 64 (is.take (4 * i)) ∧ (pDecL is i).flatten.length = 3 * i
  | 0, _ => by simp [pDecL, num]
  | i + 1, hi => by
    obtain ⟨ih, il⟩ := full_num h i (by lia)
    have hl : ((is.drop (4 * i)).take 4).length = 4 := by simp; lia
    have hg := gOcts_num (group_mem (i := i) h) ⟨by lia, by rw [hl]; exact Int.emod_one _⟩ (by lia)
    have hgl := gOcts_len ((is.drop (4 * i)).take 4)
    rw [hl] at hg hgl
    have hg : num 256 (gOcts ((is.drop (4 * i)).take 4)) * 1 = _ := hg
    rw [Int.mul_one] at hg
    rw [pDecL_succ, List.flatten_append, num_app, take_group, num_app, ih, hl]
    simp only [List.flatten_cons, List.flatten_nil, List.append_nil, List.length_append]
    rw [hg, hgl, il]
    exact ⟨rfl, by lia⟩
theorem last_split (is : List Int) : num 64 is = num 64 (is.take (4 * (is.length / 4))) * 64 ^ (is.length % 4) + num 64 (is.drop (4 * (is.length / 4))) := by
  have e : (is.drop (4 * (is.length / 4))).length = is.length % 4 := by rw [List.length_drop]; lia
  rw [← e, ← num_app, List.take_append_drop]
theorem last_mod (is : List Int) (h1 : is.length % 4 ≠ 1) : num 64 is % 2 ^ (6 * is.length % 8) = num 64 (is.drop (4 * (is.length / 4))) % 2 ^ (6 * is.length % 8) := by
  rw [last_split, p64]
  have e : (2 : Int) ^ (6 * (is.length % 4)) = 2 ^ (6 * (is.length % 4) - 6 * is.length % 8) * 2 ^ (6 * is.length % 8) := by
    rw [← Int.pow_add]; congr 1; lia
  rw [e, ← Int.mul_assoc, Int.add_comm, Int.add_mul_emod_self_right]
section
variable {ns : List Nat} {b : Nat}
theorem grp_of {L i : Nat} (hi : i < (L + 3) / 4) (h4 : L - 4 * i < 4) : ∃ r, L = 4 * i + r ∧ (r = 1 ∨ r = 2 ∨ r = 3) := by
  have h : 4 * i + 4 ≤ L + 3 := by have q := (Nat.le_div_iff_mul_le (by decide)).mp (Nat.succ_le_of_lt hi); rwa [Nat.succ_mul, Nat.mul_comm] at q
  have h : 4 * i < L := Nat.le_of_succ_le_succ (Nat.le_of_succ_le_succ (Nat.le_of_succ_le_succ h))
  have key : ∀ r, r < 4 → 0 < r → r = 1 ∨ r = 2 ∨ r = 3 := by decide
  exact ⟨L - 4 * i, (Nat.add_sub_cancel' (Nat.le_of_lt h)).symm, key _ h4 (Nat.sub_pos_of_lt h)⟩
theorem grp_div {i r : Nat} (h : r < 4) : (4 * i + r) / 4 = i ∧ (4 * i + r) % 4 = r :=
  ⟨by rw [Nat.mul_add_div (by decide), Nat.div_eq_of_lt h]; rfl, by rw [Nat.mul_add_mod, Nat.mod_eq_of_lt h]⟩
theorem six_mod (i r : Nat) : 6 * (4 * i + r) % 8 = 6 * r % 8 := by rw [Nat.mul_add, ← Nat.mul_assoc, show 6 * 4 = 8 * 3 from rfl, Nat.mul_assoc, Nat.mul_add_mod]
theorem six_div (i r : Nat) : 6 * (4 * i + r) / 8 = 3 * i + 6 * r / 8 := by rw [Nat.mul_add, ← Nat.mul_assoc, show 6 * 4 = 8 * 3 from rfl, Nat.mul_assoc, Nat.mul_add_div (by decide)]
theorem shR_bad {i : Nat} (hns : ∀ j ∈ ns, j < 64) (hi : i < (ns.length + 3) / 4) (h : ¬ GoodGroup (((nInts ns).drop (4 * i)).take 4)) :
    shR ns b = .error (b + (4 * i + (((nInts ns).drop (4 * i)).take 4).length - 1)) := by
  have hl := nInts_length ns
  have hgl : (((nInts ns).drop (4 * i)).take 4).length = min 4 (ns.length - 4 * i) := by simp [hl]
  have h4 : ns.length - 4 * i < 4 := Nat.lt_of_not_le fun q => h ⟨by rw [hgl, Nat.min_eq_left q]; decide, by rw [hgl, Nat.min_eq_left q]; exact Int.emod_one _⟩
  obtain ⟨r, hL, hr⟩ := grp_of hi h4
  clear hi h4
  have hr4 : r < 4 := by rcases hr with rfl | rfl | rfl <;> decide
  have hr1 : 1 ≤ r := by rcases hr with rfl | rfl | rfl <;> decide
  rw [hL, Nat.add_sub_cancel_left, Nat.min_eq_right (Nat.le_of_lt hr4)] at hgl
  have hm4 : ns.length % 4 = r := by rw [hL]; exact (grp_div hr4).2
  rw [hgl, ← hL, ← Nat.add_sub_assoc (by rw [hL]; exact Nat.le_trans hr1 (Nat.le_add_left _ _))]
  unfold shR
  by_cases h1 : r = 1
  · rw [if_pos (hm4.trans h1)]
  · rw [if_neg (fun q => h1 (hm4.symm.trans q)), if_pos]
    intro z
    refine h ⟨by rw [hgl]; exact Nat.lt_of_le_of_ne hr1 fun q => h1 q.symm, ?_⟩
    have hm := last_mod (nInts ns) (by rw [hl, hm4]; exact h1)
    rw [hl, hL, (grp_div hr4).1] at hm
    have ht : ((nInts ns).drop (4 * i)).take 4 = (nInts ns).drop (4 * i) := List.take_of_length_le (by rw [List.length_drop, hl, hL, Nat.add_sub_cancel_left]; exact Nat.le_of_lt hr4)
    rw [hgl, show 8 - 2 * r = 6 * (4 * i + r) % 8 by rw [six_mod]; rcases hr with rfl | rfl | rfl; exact absurd rfl h1; rfl; rfl, ht]
    rw [hL] at z
    exact hm.symm.trans z
/-- all groups good: the octets are the number -/
theorem good_all (hns : ∀ j ∈ ns, j < 64) (h : ∀ i, i < (ns.length + 3) / 4 → GoodGroup (((nInts ns).drop (4 * i)).take 4)) :
    ns.length % 4 ≠ 1 ∧ num 64 (nInts ns) % 2 ^ (6 * ns.length % 8) = 0 ∧ (pDecL (nInts ns) ((ns.length + 3) / 4)).flatten.length = 6 * ns.length / 8 ∧
      num 256 (pDecL (nInts ns) ((ns.length + 3) / 4)).flatten * 2 ^ (6 * ns.length % 8) = num 64 (nInts ns) := by
  have hl := nInts_length ns
  have hin := nInts_in hns
  obtain ⟨q, r, hL, hr4⟩ : ∃ q r, ns.length = 4 * q + r ∧ r < 4 := ⟨ns.length / 4, ns.length % 4, (Nat.div_add_mod _ 4).symm, Nat.mod_lt _ (by decide)⟩
  have hsp := last_split (nInts ns)
  have hm := last_mod (nInts ns)
  obtain ⟨hf, hfl⟩ := full_num hin q (by rw [hl, hL]; exact Nat.le_add_right _ _)
  rw [hl, hL, (grp_div hr4).1, (grp_div hr4).2] at hsp
  rw [hl, hL, (grp_div hr4).1, (grp_div hr4).2, six_mod] at hm
  rw [hL] at h hl ⊢
  rw [(grp_div hr4).2, six_mod, six_div]
  rcases Nat.eq_zero_or_pos r with h0 | h0
  · subst h0
    have e3 : (nInts ns).take (4 * q) = nInts ns := List.take_of_length_le (Nat.le_of_eq hl)
    rw [show (4 * q + 0 + 3) / 4 = q by rw [Nat.add_zero]; exact (grp_div (by decide)).1, hf, e3, hfl]
    exact ⟨by decide, Int.emod_one _, rfl, Int.mul_one _⟩
  · have e1 : (4 * q + r + 3) / 4 = q + 1 := by
      rw [Nat.add_assoc, Nat.mul_add_div (by decide)]
      congr 1
      exact Nat.div_eq_of_lt_le (by rw [Nat.one_mul]; exact Nat.succ_le_succ_iff.mp (Nat.add_le_add_right h0 4)) (Nat.lt_of_lt_of_le (Nat.add_lt_add_right hr4 3) (by decide))
    rw [e1] at h ⊢
    have hg := h q (Nat.lt_succ_self q)
    have hgl : ((nInts ns).drop (4 * q)).length = r := by rw [List.length_drop, hl, Nat.add_sub_cancel_left]
    have ht : ((nInts ns).drop (4 * q)).take 4 = (nInts ns).drop (4 * q) := List.take_of_length_le (by rw [hgl]; exact Nat.le_of_lt hr4)
    rw [ht] at hg
    have hgn := gOcts_num (fun k hk => hin k (List.mem_of_mem_drop hk)) hg (by rw [hgl]; exact Nat.le_of_lt hr4)
    have hol := gOcts_len ((nInts ns).drop (4 * q))
    obtain ⟨hg1, hg2⟩ := hg
    rw [hgl] at hg1 hg2 hgn hol
    have hr : r = 2 ∨ r = 3 := by
      rcases Nat.lt_or_ge r 3 with z | z
      · exact .inl (Nat.le_antisymm (Nat.le_of_lt_succ z) hg1)
      · exact .inr (Nat.le_antisymm (Nat.le_of_lt_succ hr4) z)
    have er : 8 - 2 * r = 6 * r % 8 := by rcases hr with rfl | rfl <;> rfl
    have h1 : r ≠ 1 := fun z => by rw [z] at hg1; exact absurd hg1 (by decide)
    rw [er] at hg2 hgn
    rw [pDecL_succ, ht, List.flatten_append, List.length_append, hfl, num_app]
    simp only [List.flatten_cons, List.flatten_nil, List.append_nil]
    refine ⟨h1, (hm h1).trans hg2, ?_, ?_⟩
    · rw [hol]; rcases hr with rfl | rfl <;> rfl
    · rw [Int.add_mul, hgn, hf, hol, Int.mul_assoc, hsp]
      congr 2
      rw [p64, p256, ← Int.pow_add]; rcases hr with rfl | rfl <;> rfl
theorem pDec_in (is : List Int) (n : Nat) : ∀ k ∈ (pDecL is n).flatten, 0 ≤ k ∧ k < 256 := by
  intro k hk
  obtain ⟨l, hl, hk⟩ := List.mem_flatten.mp hk
  obtain ⟨i, _, rfl⟩ := List.mem_map.mp hl
  exact gOcts_in _ k hk
theorem shR_odd (hns : ∀ j ∈ ns, j < 64) (h : ∀ i, i < (ns.length + 3) / 4 → GoodGroup (((nInts ns).drop (4 * i)).take 4))
    (ho : (pDecL (nInts ns) ((ns.length + 3) / 4)).flatten.length % 2 = 1) : shR ns b = .error (b + ns.length) := by
  obtain ⟨g1, g2, g3, _⟩ := good_all hns h
  unfold shR
  rw [if_neg g1, if_neg (fun z => z g2), if_pos (by rw [← g3]; exact ho)]
theorem units_num : ∀ (m : Nat) (rs : List Int), rs.length = 2 * m → num 65536 (unitsOf rs m) = num 256 rs
  | 0, rs, h => by
    rw [List.eq_nil_of_length_eq_zero h]; rfl
  | m + 1, rs, h => by
    match rs, h with
    | x :: y :: r, h =>
      have hr : r.length = 2 * m := by simp at h; lia
      have ih := units_num m r hr
      have e : unitsOf (x :: y :: r) (m + 1) = (x * 256 + y) :: unitsOf r m := by
        unfold unitsOf
        rw [List.range_succ_eq_map, List.map_cons, List.map_map]
        congr 1
      have hu : (unitsOf r m).length = m := by simp [unitsOf]
      rw [e, num_cons, num_cons, num_cons, ih, hu, List.length_cons, hr, show (65536 : Int) ^ m = 256 ^ (2 * m) by rw [Int.pow_mul]; rfl, Int.pow_succ, Int.add_mul]
      rw [Int.mul_assoc, Int.mul_comm (256 : Int) (256 ^ (2 * m)), Int.add_assoc]
theorem units_in {rs : List Int} {m : Nat} (h : ∀ k ∈ rs, 0 ≤ k ∧ k < 256) : ∀ u ∈ unitsOf rs m, 0 ≤ u ∧ u < 65536 := by
  intro u hu
  obtain ⟨i, _, rfl⟩ := List.mem_map.mp hu
  have h1 := KBw.getD_in (j := 2 * i) (ks := rs) h
  have h2 := KBw.getD_in (j := 2 * i + 1) (ks := rs) h
  unfold unitAt; lia
theorem shR_even {m : Nat} (hns : ∀ j ∈ ns, j < 64) (h : ∀ i, i < (ns.length + 3) / 4 → GoodGroup (((nInts ns).drop (4 * i)).take 4))
    (hm : (pDecL (nInts ns) ((ns.length + 3) / 4)).flatten.length = 2 * m) : shR ns b = sc b 0 (unitsOf (pDecL (nInts ns) ((ns.length + 3) / 4)).flatten m) 0 := by
  obtain ⟨g1, g2, g3, g4⟩ := good_all hns h
  have hin := pDec_in (nInts ns) ((ns.length + 3) / 4)
  generalize (pDecL (nInts ns) ((ns.length + 3) / 4)).flatten = rs at *
  have hul : (unitsOf rs m).length = m := by simp [unitsOf]
  have hd := digs_num (B := 65536) (by decide) (unitsOf rs m) (units_in hin)
  rw [units_num m rs hm, hul] at hd
  have e1 : 6 * ns.length / 16 = m := by rw [show 16 = 8 * 2 from rfl, ← Nat.div_div_eq_div_mul, ← g3, hm, Nat.mul_div_cancel_left _ (by decide)]
  have e2 : 6 * ns.length - 16 * m = 6 * ns.length % 8 := by
    have q := Nat.div_add_mod (6 * ns.length) 8
    rw [← g3, hm, ← Nat.mul_assoc] at q
    exact Nat.sub_eq_of_eq_add (q.symm.trans (Nat.add_comm _ _))
  unfold shR
  rw [if_neg g1, if_neg (fun z => z g2), if_neg (by rw [← g3, hm, Nat.mul_mod_right]; decide), e1, e2, wTot_num, ← g4, Int.mul_ediv_cancel _ (Int.ne_of_gt (Int.pow_pos (by decide))), hd]
theorem sc_len {b : Nat} : ∀ (us : List Int) (hi : Int) (j : Nat) (ds : List Nat), sc b hi us j = .ok ds → ds.length ≤ us.length
  | [], hi, j, ds, h => by
    rw [sc] at h
    split at h
    · cases h
    · cases h; exact Nat.le_refl _
  | u :: us, hi, j, ds, h => by
    have ih := fun hi j ds => sc_len (b := b) us hi j ds
    have hpre : ∀ (x : List Nat) (hi : Int) (j : Nat), x.length = 1 → pre x (sc b hi us j) = .ok ds → ds.length ≤ (u :: us).length := fun x hi j hx q => by
      cases hr : sc b hi us j with
      | error k => rw [hr] at q; cases q
      | ok r =>
        rw [hr] at q; cases q
        have := ih hi j _ hr
        rw [List.length_append, List.length_cons]; lia
    rw [sc] at h
    split at h
    · split at h
      · exact hpre _ _ _ rfl h
      · cases h
    · split at h
      · exact Nat.le_succ_of_le (ih _ _ _ h)
      · split at h
        · cases h
        · split at h
          · cases h
          · exact hpre _ _ _ rfl h
theorem shR_len {ds : List Nat} (h : shR ns b = .ok ds) : ds.length ≤ ns.length := by
  unfold shR at h
  split at h
  · cases h
  · split at h
    · cases h
    · split at h
      · cases h
      · have := sc_len _ _ _ _ h
        rw [digs_len] at this; lia
end
theorem sgn_idx {c : Int} (h : sgn.contains c = true) : sgn.getD (sgn.idxOf c) 0 = c ∧ sgn.idxOf c < 64 := by
  have hm := List.contains_iff_mem.mp h
  have hl := List.idxOf_lt_length_iff.mpr hm
  refine ⟨?_, hl⟩
  rw [List.getD_eq_getElem?_getD, List.getElem?_eq_getElem hl]
  exact List.getElem_idxOf hl
theorem tw_all {p : Int → Bool} : ∀ {l : List Int} {c : Int}, c ∈ l.takeWhile p → p c = true
  | [], _, h => nomatch h
  | x :: l, c, h => by
    rw [List.takeWhile_cons] at h
    split at h
    · rcases List.mem_cons.mp h with rfl | h
      · assumption
      · exact tw_all h
    · cases h
theorem nsOf_signs (os : List Int) (b : Nat) : (os.drop b).take (sEnd os b - b) = (nsOf os b (sEnd os b)).map (fun j => sgn.getD j 0) ∧ ∀ j ∈ nsOf os b (sEnd os b), j < 64 := by
  have e : sEnd os b - b = ((os.drop b).takeWhile fun c => sgn.contains c).length := by unfold sEnd; lia
  have e2 : (os.drop b).take (sEnd os b - b) = (os.drop b).takeWhile fun c => sgn.contains c := by
    rw [e]; exact (List.prefix_iff_eq_take.mp (List.takeWhile_prefix _)).symm
  have hall : ∀ c ∈ (os.drop b).take (sEnd os b - b), sgn.contains c = true := by
    rw [e2]; exact fun c hc => tw_all hc
  unfold nsOf
  refine ⟨?_, fun j hj => ?_⟩
  · rw [List.map_map]
    exact ((List.map_congr_left fun c hc => (sgn_idx (hall c hc)).1).trans (List.map_id' _)).symm
  · obtain ⟨c, hc, rfl⟩ := List.mem_map.mp hj
    exact (sgn_idx (hall c hc)).2

section
variable {prog p : Program} {lz : List Str} {w : World} {mean : ExcName → Option Value} {mg mb : Str → Option Value} {dp un : Nat} {gd : Option (List Code)} {base : Heap} {outer : List Env} {n : Nat}
  {Q E : Value → Shared → Prop} {s : Shared}
set_option maxHeartbeats 2000000 in
theorem cx_shifted {o : Array UInt8} {os : List Int} {t t1 t2 : Tok} {b e : Nat} {ns : List Nat} (S : Sit p lz w mean mg mb dp un gd base outer (n + 5) s.heap)
  (XB : (hd.heap_39 w.params).In base) (TB : Top p lz mean mg mb base)
  (ho : KBw.bInts o = os) (hbe : b ≤ e) (he : e ≤ os.length) (hk : os.length ≤ 100000)
  (hsl : (os.drop b).take (e - b) = ns.map fun j => sgn.getD j 0) (hns : ∀ j ∈ ns, j < 64)
  (hret : ∀ ds, shR ns b = .ok ds → ∀ t h' tk', s.heap.StaysIn h' → Q (.str ⟨ds.toArray⟩ t) { s with heap := h', toks := tk' })
  (hexc : ∀ k : Nat, shR ns b = .error k → ∀ e h' tk', FX.Fault base outer 64 k s.heap e h' → E (.ref e) { s with heap := h', toks := tk' }) :
  wpAny (model prog w) (ar dp un gd outer) (call (.ref 158) [.bytes o t, .int b t1, .int e t2]) Q E s := by
  k_dflt refine' enterS (binds := [(Str.ofString "octets", .bytes o t), (Str.ofString "begin", .int b t1), (Str.ofString "end", .int e t2)]) S ?k6 ?k7 ?k9 ?kB ?c2 ?c3 ?c4 ?c5 ?_
  walk_at "enter_s"
  k_steps
  (rename KBw.bInts (KBy.picked _ _ _) = _ => hb5); (rename Fr _ _ _ _ => F5); (rename News _ _ _ _ => N5)
  rw [Nat.min_eq_left he, Nat.min_eq_left (Nat.le_trans hbe he), hsl] at hb5
  have hnl : (ns.map fun j => sgn.getD j 0).length ≤ 100000 := by rw [← hsl]; simp; lia
  have hnb : ns.length = e - b := by have := congrArg List.length hsl; simp at this; lia
  refine cx_part_decoded (ns := ns) (FX.Sit.useB (n := n + 4) (by assumption) F5 (by assumption) (by assumption) (by walk_at "sitn") (by walk_at "sitn")) hb5 (by first | rfl | decide +kernel) rfl hns hnl ?_ ?_
  · intro hgood b6 t6 h6 tk6 k6 i6
    have F6 := fr_stays F5 k6
    have N6 := news_stays N5 k6
    have hrl : (pDecL (nInts ns) ((ns.length + 3) / 4)).flatten.length ≤ 200000 := by
      have : ((pDecL (nInts ns) ((ns.length + 3) / 4)).map List.length).sum ≤ 3 * ((ns.length + 3) / 4) := pDecL_sum (nInts ns) ((ns.length + 3) / 4)
      rw [List.length_flatten]
      simp only [List.length_map] at hnl
      lia
    have hodd := shR_odd (b := b) hns hgood
    have heven := fun m => shR_even (b := b) (m := m) hns hgood
    generalize (pDecL (nInts ns) ((ns.length + 3) / 4)).flatten = rs at i6 hrl hodd heven
    have hfm : (rs.length : Int).fmod 2 = (rs.length : Int) % 2 := Int.fmod_eq_emod_of_nonneg _ (by lia)
    k_steps
    · exact FX.raise_end (by assumption) (by assumption) (by assumption) (by assumption) (by assumption) (by assumption) (.inr rfl) (FX.exc_at (hexc _ (hodd (by lia))) (by lia))
    · (rename Fr _ _ _ _ => F7); (rename News _ _ _ _ => N7)
      have hm : rs.length = 2 * (rs.length / 2) := by lia
      rw [heven _ hm] at hret hexc
      refine cx_units_text (n := n + 1) (Sit.use (by assumption) F7 (by assumption) (by assumption) (by walk_at "sitn") (by walk_at "sitn")) i6 hm hrl (by lia) ?_ ?_
      · intro ds hds t8 h8 tk8 k8
        have F8 := fr_stays F7 k8
        k_steps
        exact hret ds hds _ _ _ (Fr.keep (by assumption))
      · intro k hkk e8 h8 tk8 x8
        exact FX.pass_end B1 F7 x8 fun h' z => hexc k hkk _ _ _ z
  · intro i hi hng e1 h6 tk6 x
    have hg1 : 1 ≤ (((nInts ns).drop (4 * i)).take 4).length := by simp [nInts]; lia
    have hk' := shR_bad (b := b) hns hi hng
    refine FX.note_next (Around.frames_deeper B1.stack) rfl x fun h7 x7 => ?_
    refine FX.land x7 fun h8 x8 => ?_
    obtain ⟨g8, F8, B8, U8, X8, T8, ne8, oe8, ve8, he8, hc8, _⟩ := FX.ground B1 F5 XB TB x8
    have N8 : News g8 L1 h8 [] := fun p hp => nomatch hp
    refine FX.catch_as (C := 52) ?_
    k_steps
    refine ⟨rfl, (FX.cls_of (X8.keeps F8.keep)).1, ⟨oe8, he8, hc8⟩, FX.land_again x8 fun h9 x9 => ?_⟩
    obtain ⟨g9, F9, B9, U9, X9, T9, ne9, oe9, ve9, he9, hc9, hd9⟩ := FX.ground B1 F5 XB TB x9
    refine FX.bind_at F9 x9.has (by rfl) ne9 fun h10 F10 A10 hs10 => ?_
    have N10 : News g9 L1 h10 [] := fun p hp => nomatch hp
    have K10 := (FX.cls_of (X9.keeps F10.keep)).1
    have he10 := (hs10 _ ne9).trans he9
    clear F8 N8
    k_steps
    refine FX.read_at K10 A10 he10 hc9 hd9 fun u11 => ?_
    k_steps
    exact FX.suite_raise (n := n + 2) B9 F10 X9 T9 (by lia) (by lia) (by rfl) (FX.Bare.same (x9.bare rfl) (hs10 _ ne9)) (FX.exc_at (fun y h12 tk12 z => hexc _ hk' y h12 tk12 (z.from U9)) (by lia))
end

section
variable {prog p : Program} {lz : List Str} {w : World} {mean : ExcName → Option Value} {mg mb : Str → Option Value} {dp un : Nat} {gd : Option (List Code)} {base : Heap} {outer : List Env} {n : Nat}
  {Q E : Value → Shared → Prop} {s : Shared}
noncomputable abbrev VC := List Value × Nat × Nat × Tok × Int × Tok × List (List Nat)
noncomputable def VP (R : Rdg) (os : List Int) (c : VC) : Prop := pre c.2.2.2.2.2.2.flatten (rd os c.2.2.1 c.2.2.2.2.1) = R ∧ StrsAre c.1 (c.2.2.2.2.2.2.map fun d => (⟨d.toArray⟩ : PySem.Str)) ∧ c.2.2.1 ≤ os.length ∧ c.2.2.2.2.2.2.length ≤ c.2.2.1 ∧ c.2.2.2.2.2.2.flatten.length ≤ c.2.2.1
theorem sev_end {R : Rdg} {os : List Int} {l4 : Addr} {h₀ : Heap} {L : Addr} {rest : List (Addr × Obj)} {stored : List Str} {m₀ m' : Str → Option Value} {s₁ : Shared} {h' : Heap} {tk : Nat} {ws : List Value} {e : Nat} {i' : Nat} {ti' tsh' : Tok} {sh' : Int} {tx' : List (List Nat)} {c : VC}
    (F : Fr h₀ L h' m') (N : News h₀ L h' ((l4, W.listOf ws.toArray e) :: rest)) (hk1 : m' (Str.ofString "at") = some (.int (i' : Nat) ti')) (hk2 : m' (Str.ofString "shift_end") = some (.int sh' tsh')) (hr : ∀ z, z ≠ Str.ofString "at" → z ≠ Str.ofString "shift_end" → stored.contains z = false → m' z = m₀ z)
    (h1 : pre tx'.flatten (rd os i' sh') = R) (h3 : StrsAre ws (tx'.map fun d => (⟨d.toArray⟩ : PySem.Str))) (h4 : i' ≤ os.length) (h5 : tx'.length ≤ i') (h6 : tx'.flatten.length ≤ i') (hm : os.length - i' < os.length - c.2.2.1) :
    KswEnd h₀ L s₁ (fun c : VC => [(l4, W.listOf c.1.toArray c.2.1)]) (fun c => [(Str.ofString "at", .int c.2.2.1 c.2.2.2.1), (Str.ofString "shift_end", .int c.2.2.2.2.1 c.2.2.2.2.2.1)]) (fun _ => True) stored m₀ (VP R os) (fun c => os.length - c.2.2.1) c { s₁ with heap := h', toks := tk } :=
  ksw_end (ws, e, i', ti', sh', tsh', tx') F N (fun p hp => by rw [List.mem_singleton.mp hp]; exact .head _) trivial (fun p hp => by
      rcases List.mem_cons.mp hp with rfl | hp
      · exact hk1
      · cases List.mem_singleton.mp hp; exact hk2) (fun z hz2 hz3 => hr z (hz2 _ (.head _)) (hz2 _ (.tail _ (.head _))) hz3) ⟨h1, h3, h4, h5, h6⟩ hm
set_option maxHeartbeats 2000000 in
theorem cx_text {o : Array UInt8} {os : List Int} {t : Tok} (S : Sit p lz w mean mg mb dp un gd base outer (n + 6) s.heap)
  (XB : (hd.heap_39 w.params).In base) (TB : Top p lz mean mg mb base)
  (ho : KBw.bInts o = os) (hk : os.length ≤ 100000)
  (hret : ∀ ds, rd os 0 (-1) = .ok ds → ∀ t h' tk', s.heap.StaysIn h' → Q (.str ⟨ds.toArray⟩ t) { s with heap := h', toks := tk' })
  (hexc : ∀ k : Nat, rd os 0 (-1) = .error k → ∀ e h' tk', FX.Fault base outer 64 k s.heap e h' → E (.ref e) { s with heap := h', toks := tk' }) :
  wpAny (model prog w) (ar dp un gd outer) (call (.ref 165) [.bytes o t]) Q E s := by
  k_dflt refine' enterS (binds := [(Str.ofString "octets", .bytes o t)]) S ?k6 ?k7 ?k9 ?kB ?c2 ?c3 ?c4 ?c5 ?_
  walk_at "enter_s"
  k_steps
  (rename Fr _ _ _ _ => F6); (rename News _ _ _ _ => N6)
  generalize hR : rd os 0 (-1) = R at hret hexc
  refine' unhalt (ksw_while (σ := VC) (fun c => [(_, W.listOf c.1.toArray c.2.1)]) (fun c => [(Str.ofString "at", .int c.2.2.1 c.2.2.2.1), (Str.ofString "shift_end", .int c.2.2.2.2.1 c.2.2.2.2.2.1)]) (fun _ => True) [Str.ofString "code", Str.ofString "end"]
    (VP R os) (fun c => os.length - c.2.2.1) ([], 0, 0, ?tk0, -1, ?tk1, []) F6 N6 trivial ?hk0 ⟨(pre_nil _).trans hR, .nil, Nat.zero_le _, Nat.zero_le _, Nat.zero_le _⟩ ?_)
  case hk0 =>
    intro p hp
    rcases List.mem_cons.mp hp with rfl | hp
    · rfl
    · cases List.mem_singleton.mp hp; rfl
  · rintro ⟨vs, k1, i, ti, sh, tsh, tx⟩ u h tk _ ⟨hS, hst, hi, htl, htf⟩ F N
    dsimp only at hS hst hi htl htf F N
    have hvl := hst.length
    simp only [List.length_map] at hvl
    have hti : (i : Int).toNat = i := by lia
    k_steps
    · (rename (decide _ && decide _) = true => c1); simp only [Bool.and_eq_true, decide_eq_true_eq] at c1
      (rename _ ≠ (38 : Int) => c2); (rename News _ _ _ _ => nE); simp only [List.push_toArray] at nE
      have hlt : i < os.length := by lia
      rw [rd_plain hlt c1.1 c1.2 c2, pre_pre] at hS
      exact sev_end (i' := i + 1) (tx' := tx ++ [[(os.getD i 0).toNat]]) (by assumption) nE (by with_unfolding_all rfl) (by with_unfolding_all rfl) (by walk_at "hrs") (by rw [List.flatten_append]; exact hS) (strs_snocL hst [(os.getD i 0).toNat] _) hlt (by rw [List.length_append]; exact Nat.succ_le_succ htl) (by rw [List.flatten_append, List.length_append]; exact Nat.succ_le_succ htf) (by exact Nat.sub_lt_sub_left hlt (Nat.lt_succ_self i))
    · (rename _ = (38 : Int) => c2); (rename Fr _ _ _ _ => F5); (rename News _ _ _ _ => N5)
      have hlt : i < os.length := by lia
      refine cx_shift_behind (n := n + 2) (b := i + 1) (Sit.use B1 F5 X1 T1 (by walk_at "sitn") (by walk_at "sitn")) ho hlt (by lia) ?_ ?_
      · intro hlt2 h45 t9 h9 tk9 k9
        have F9 := fr_stays F5 k9
        have N9 := news_stays N5 k9
        have hge := sEnd_ge os (i + 1)
        k_steps
        · (rename (sEnd _ _ : Int) = _ => c3); (rename News _ _ _ _ => nE); simp only [List.push_toArray] at nE
          have c4 : sEnd os (i + 1) = i + 1 := by lia
          rw [rd_amp hlt c2 h45 c4, pre_pre] at hS
          rw [c4] at hlt2
          exact sev_end (i' := i + 2) (tx' := tx ++ [[38]]) (by assumption) nE (by rw [show ((i + 2 : Nat) : Int) = (sEnd os (i + 1) : Int) + 1 by rw [c4]; rfl]; with_unfolding_all rfl) (by with_unfolding_all rfl) (by walk_at "hrs") (by rw [List.flatten_append]; exact hS) (strs_snocL hst [38] _) hlt2 (by rw [List.length_append]; show tx.length + 1 ≤ i + 2; lia) (by rw [List.flatten_append, List.length_append]; show tx.flatten.length + 1 ≤ i + 2; lia) (by exact Nat.sub_lt_sub_left hlt (Nat.lt_add_of_pos_right (by decide)))
        · rw [rd_need hlt c2 h45 (by lia) (by assumption)] at hS
          exact FX.raise_end (by assumption) (by assumption) (by assumption) (by assumption) (by assumption) (by assumption) (.inr rfl) (hexc _ hS.symm)
        · (rename (sEnd _ _ : Int) ≠ _ => c3); (rename Fr _ _ _ _ => F11); (rename News _ _ _ _ => N11)
          have hsg := nsOf_signs os (i + 1)
          refine cx_shifted (n := n) (b := i + 1) (e := sEnd os (i + 1)) (Sit.use B1 F11 X1 T1 (by walk_at "sitn") (by walk_at "sitn")) XB TB ho hge (by lia) hk hsg.1 hsg.2 ?_ ?_
          · intro ds hds t13 h13 tk13 k13
            have F13 := fr_stays F11 k13
            have N13 := news_stays N11 k13
            rw [rd_shift hlt c2 h45 (by lia) (by assumption) hds, pre_pre] at hS
            have hdl := shR_len hds
            have hnl : (nsOf os (i + 1) (sEnd os (i + 1))).length ≤ sEnd os (i + 1) - (i + 1) := by unfold nsOf; simp; lia
            k_steps
            (rename News _ _ _ _ => nE); simp only [List.push_toArray] at nE
            exact sev_end (i' := sEnd os (i + 1) + 1) (tx' := tx ++ [ds]) (by assumption) nE (by with_unfolding_all rfl) (by with_unfolding_all rfl) (by walk_at "hrs") (by rw [List.flatten_append]; simpa using hS) (strs_snocL hst ds _) (by lia) (by rw [List.length_append]; show tx.length + 1 ≤ _; lia) (by rw [List.flatten_append, List.length_append]; simp only [List.flatten_cons, List.flatten_nil, List.append_nil]; lia) (by exact Nat.sub_lt_sub_left hlt (Nat.lt_succ_of_le (Nat.le_of_succ_le hge)))
          · intro k hkk e13 h13 tk13 x13
            exact FX.pass_end B1 F11 x13 fun h' z => hexc _ (by rw [rd_bad hlt c2 h45 (by lia) (by assumption) hkk] at hS; exact hS.symm) _ _ _ z
      · intro h45 e9 h9 tk9 x9
        exact FX.pass_end B1 F5 x9 fun h' z => hexc _ (by rw [rd_open hlt c2 h45] at hS; exact hS.symm) _ _ _ z
    · (rename (decide _ && decide _) = false => c1); simp only [Bool.and_eq_false_iff, decide_eq_false_iff_not] at c1
      have hlt : i < os.length := by lia
      rw [rd_raw hlt (by rw [hti] at c1; lia)] at hS
      exact FX.raise_end (by assumption) (by assumption) (by assumption) (by assumption) (by assumption) (by assumption) (.inr rfl) (hexc _ hS.symm)
    · rw [rd_done (by lia)] at hS
      have hds : R = .ok tx.flatten := by rw [← hS]; exact congrArg Except.ok (List.append_nil _)
      have hwt : ((tx.map fun d => (⟨d.toArray⟩ : PySem.Str)).map (·.length)).sum + (tx.map fun d => (⟨d.toArray⟩ : PySem.Str)).length ≤ 1048576 := by
        have e1 : (tx.map fun d => (⟨d.toArray⟩ : PySem.Str)).map (·.length) = tx.map List.length := by rw [List.map_map]; refine List.map_congr_left fun d _ => ?_; simp [Str.length]
        rw [e1, ← List.length_flatten, List.length_map]; lia
      refine join_listW (items := vs.toArray) ⟨_, (N _ (.head _)).1, rfl, _, rfl⟩ hst (by decide) hwt fun t' k' => ?_
      rw [join_lists]
      k_steps
      exact hret _ hds _ _ _ (Fr.keep (by assumption))
end

section
variable {prog : Program} {w : World} {A : Around} {E : Value → Shared → Prop} {s : Shared} {h₀ : Heap} {L : Addr} {m : Str → Option Value} {env : Env}
  {elt : Expr} {x : Str} {scope : Scope} {cl : List (Str × Addr)}
variable {Fin : Shared → List Value → List (Addr × Obj) → Prop} {news : List (Addr × Obj)} {s₁ : Shared}
open LCg
theorem comp_str {xt : Str} {tx : Tok} (hh : A.handled = none) (F : Fr h₀ L s₁.heap m) (N : News h₀ L s₁.heap news) (hsz : xt.cps.size ≤ sizeLine)
    (h : ∀ g, CompRest prog w A h₀ L m env elt x scope cl { s₁ with heap := g } (fun _ => True) (SignAt xt) (Fin { s₁ with heap := g }) xt.cps.size 0 [] news) :
    CompGo prog w A h₀ L m env elt x scope cl Fin E (.str xt tx) s₁ := by
  have go : ∀ (nm : String), Walks prog w A s₁.heap.objs.size [s₁.heap.objs.size] [s₁.heap.objs.size] xt.cps.size (SignAt xt) (fun i h => h.IsStrIter s₁.heap.objs.size nm xt tx i) →
      (fun (it : Value) (s₂ : Shared) => ∃ (I : Addr) (fp : List Addr) (n : Nat) (P : Nat → Value → Prop) (St : Nat → Heap → Prop) (S : List (Addr × Obj) → Prop) (news : List (Addr × Obj)), it = .ref I ∧ Walks prog w A I fp [I] n P St ∧ n ≤ sizeLine ∧ (∀ i h, St i h → ∃ o, h.get? I = some o) ∧
    (∀ i h h' o nw, St i h → h.get? I = some o → h'.get? I = some o → (∀ b o, h₀.get? b = some o → h'.get? b = some o) → News h₀ L h' nw → S nw → St i h') ∧ St 0 s₂.heap ∧ (∀ b ∈ fp, b < s₂.heap.objs.size) ∧
    Fr h₀ L s₂.heap m ∧ News h₀ L s₂.heap news ∧ L ≠ I ∧ h₀.get? I = none ∧ (∀ p ∈ news, p.1 ≠ I) ∧ S news ∧
    CompRest prog w A h₀ L m env elt x scope cl s₂ S P (Fin s₂) n 0 [] news) (.ref s₁.heap.objs.size) { s₁ with heap := s₁.heap.push { cls := .type nm, data := .fields #[.str xt tx, .int 0 0] } } := by
    intro nm Wk
    have up : ∀ a o, s₁.heap.get? a = some o → (s₁.heap.push { cls := .type nm, data := .fields #[.str xt tx, .int 0 0] }).get? a = some o := fun a o e => Heap.get?_push_of_some _ e
    refine ⟨_, _, xt.cps.size, _, _, (fun _ => True), news, rfl, Wk, hsz, (fun i h st => by obtain ⟨o, e, _⟩ := st; exact ⟨o, e⟩), ?_, ⟨_, Heap.get?_push_size _ rfl, rfl, rfl⟩, (fun b hb => ?_),
      (F.keeps up), (N.grown up), (Nat.ne_of_lt F.ns.lt), (next_is_new F), (fun p hp => Nat.ne_of_lt (Heap.lt_size (N p hp).1)), trivial, h _⟩
    · intro i h h' o nw st e e' _ _ _
      obtain ⟨o', q, r⟩ := st
      rw [e] at q; cases q
      exact ⟨o, e', r⟩
    · rw [List.mem_singleton.mp hb]
      show s₁.heap.objs.size < (s₁.heap.push _).objs.size
      rw [Heap.size_push]; exact Nat.lt_succ_self _
  show wpAny _ _ _ _ _ _
  cases ha : xt.cps.all (· < 128)
  · exact wpAny_pyIter_wide ha (go "str_iterator" (Walks.strWide hh _ xt tx))
  · exact wpAny_pyIter_ascii ha (go "str_ascii_iterator" (Walks.strAscii hh _ xt tx))
end

theorem keys10 : True := by
  k_with "pyIter ref" => ((k_here; (with_reducible show wpAny _ _ (pyIter _) _ _ _); refine halt ?_))
  k_with "exec For Name Name cons nil" => ((k_here; (with_unfolding_all refine' For_invVF (by with_reducible assumption) (by exact rfl) (by exact rfl) ?_; k_whole)))
  k_with "exec For Name BinOp cons nil" => ((k_here; (with_unfolding_all refine' For_invVF (by with_reducible assumption) (by exact rfl) (by exact rfl) ?_; k_whole)))
  k_with "binaryOp FloorDiv int int" => ((k_here; k_dflt (refine' floordiv_int (by first | assumption | lia) ?_ (Or.inl (PyProof.noPylong_of_log2 (by first | assumption | decide))))))
  k_with "pyIter str" => ((k_here; (with_reducible show wpAny _ _ (pyIter _) _ _ _); refine halt ?_))
  trivial

section
variable {prog p : Program} {lz : List Str} {w : World} {mean : ExcName → Option Value} {mg mb : Str → Option Value} {dp un : Nat} {gd : Option (List Code)} {base : Heap} {outer : List Env} {n : Nat}
  {Q E : Value → Shared → Prop} {s : Shared}
theorem log64 {k : Nat} (h : k ≤ 1400) : ((64 : Int) ^ k).natAbs.log2 < 9000 := by
  have e : ((64 : Int) ^ k).natAbs = 2 ^ (6 * k) := by rw [Int.natAbs_pow, Nat.pow_mul]; rfl
  rw [e]
  exact (Nat.log2_lt (Nat.ne_of_gt (Nat.pow_pos (by lia)))).mpr (Nat.pow_lt_pow_right (by lia) (by lia))
theorem item_sign {k : Int} (h0 : 0 ≤ k) (h1 : k < 64) : Txt.item (Str.ofString "ABCDEFGHIJKLMNOPQRSTUVWXYZabcdefghijklmnopqrstuvwxyz0123456789+,") k = ⟨#[(sgn.getD k.toNat 0).toNat]⟩ := by
  have key : ∀ j : Nat, j < 64 → Txt.item (Str.ofString "ABCDEFGHIJKLMNOPQRSTUVWXYZabcdefghijklmnopqrstuvwxyz0123456789+,") (j : Int) = ⟨#[(sgn.getD j 0).toNat]⟩ := by decide +kernel
  have := key k.toNat (by lia)
  rw [Int.toNat_of_nonneg h0] at this
  exact this
theorem strsAre_of {f : Nat → PySem.Str} : ∀ {n : Nat} {ys : List Value}, ys.length = n → (∀ (i : Nat) (y : Value), ys[i]? = some y → ∃ t, y = Value.str (f i) t) → StrsAre ys ((List.range n).map f) := by
  intro n
  induction n with
  | zero => intro ys hl _; have : ys = [] := List.eq_nil_of_length_eq_zero hl; subst this; exact .nil
  | succ n ih =>
    intro ys hl hy
    have hne : ys ≠ [] := by intro e; rw [e] at hl; simp at hl
    obtain ⟨zs, z, e⟩ : ∃ zs z, ys = zs ++ [z] := ⟨_, _, (List.dropLast_concat_getLast hne).symm⟩
    subst e
    have hd : zs.length = n := by simpa using hl
    obtain ⟨t, ht⟩ := hy n z (by simp [← hd])
    rw [List.range_succ, List.map_append, ht]
    refine StrsAre.append' (ih hd fun i y h => hy i y ?_) (.cons _ _ .nil)
    have hi : i < zs.length := by
      rcases Nat.lt_or_ge i zs.length with h1 | h1
      · exact h1
      · rw [List.getElem?_eq_none h1] at h; cases h
    rw [List.getElem?_append_left hi]; exact h
theorem sgn_small (j : Nat) : (sgn.getD j 0).toNat < 128 := by
  have : ∀ x ∈ sgn, x.toNat < 128 := by decide
  rw [List.getD_eq_getElem?_getD]
  cases h : sgn[j]? with
  | none => decide
  | some x => exact this x (List.mem_of_getElem? h)
theorem wrap_amp (ds : List Nat) : Str.ofString "&" ++ ({ cps := ds.toArray } : PySem.Str) ++ Str.ofString "-" = ⟨([38] ++ ds ++ [45]).toArray⟩ := by
  have h1 : (Str.ofString "&").cps = #[38] := by decide +kernel
  have h2 : (Str.ofString "-").cps = #[45] := by decide +kernel
  show (⟨(Str.ofString "&").cps ++ ds.toArray ++ (Str.ofString "-").cps⟩ : PySem.Str) = _
  rw [h1, h2]; simp
theorem wrap_small {ds : List Nat} (h : ∀ c ∈ ds, c < 128) : ∀ c ∈ [38] ++ ds ++ [45], c < 128 := by
  intro c q
  rcases List.mem_append.mp q with q | q
  · rcases List.mem_append.mp q with q | q
    · cases List.mem_singleton.mp q; decide
    · exact h c q
  · cases List.mem_singleton.mp q; decide
noncomputable abbrev LC := Obj × Int × Tok × Int × Tok
theorem lin_end {h₀ : Heap} {L a1 a2 l6 : Addr} {o1 o ol : Obj} {x : Str} {m₀ m' : Str → Option Value} {pre : List Int} {own own' : List (Addr × Obj)} {s₁ : Shared} {h' : Heap} {tk : Nat} {num bits B : Int} {tn tb : Tok} {offs : List Addr}
    (F : Fr h₀ L h' m') (N : News h₀ L h' ((l6, ol) :: (a1, o1) :: (a2, o) :: (own ++ own'))) (hd : o.data = .cell (some (.int num tn))) (hk : m' (Str.ofString "bits") = some (.int bits tb)) (hr : ∀ z, z ≠ x → z ≠ Str.ofString "bits" → m' z = m₀ z)
    (h1 : 0 ≤ bits) (h2 : bits ≤ B + 16 * (pre.length : Int)) (ha : offs = l6 :: a1 :: a2 :: own.map (·.1)) :
    InvEndN h₀ L (KstS (fun c : LC => (l6, ol) :: (a1, o1) :: (a2, c.1) :: own) (fun c => [(Str.ofString "bits", .int c.2.2.2.1 c.2.2.2.2)]) (fun c => c.1.data = .cell (some (.int c.2.1 c.2.2.1))) x [] m₀ (fun pre c => 0 ≤ c.2.2.2.1 ∧ c.2.2.2.1 ≤ B + 16 * (pre.length : Int)) pre) own' offs s₁ { s₁ with heap := h', toks := tk } :=
  kst_end (o, num, tn, bits, tb) F N (fun p hp => by
      have : p ∈ ((l6, ol) :: (a1, o1) :: (a2, o) :: own) ++ own' := List.mem_append_left _ hp
      exact this) (fun p hp => .tail _ (.tail _ (.tail _ (List.mem_append_right _ hp)))) (by rw [ha]; rfl) hd (fun p hp => by cases List.mem_singleton.mp hp; exact hk) (fun z hz1 hz2 _ => hr z hz1 (hz2 _ (.head _))) ⟨h1, h2⟩
theorem lsh_end {h₀ : Heap} {L a1 a2 l6 : Addr} {o1 o ol : Obj} {x : Str} {stored : List Str} {m₀ m' : Str → Option Value} {pre : List Int} {own : List (Addr × Obj)} {s₁ : Shared} {h' : Heap} {tk : Nat} {num bits : Int} {tn tb : Tok}
    (F : Fr h₀ L h' m') (N : News h₀ L h' ((l6, ol) :: (a1, o1) :: (a2, o) :: own)) (hd : o.data = .cell (some (.int num tn))) (hk : m' (Str.ofString "bits") = some (.int bits tb)) (hr : ∀ z, z ≠ x → z ≠ Str.ofString "bits" → stored.contains z = false → m' z = m₀ z)
    (h1 : 0 ≤ bits) (h2 : bits ≤ 32 * (pre.length : Int)) :
    InvEndN h₀ L (KstS (fun c : LC => [(a1, o1), (a2, c.1)]) (fun c => [(Str.ofString "bits", .int c.2.2.2.1 c.2.2.2.2)]) (fun c => c.1.data = .cell (some (.int c.2.1 c.2.2.1))) x stored m₀ (fun pre c => 0 ≤ c.2.2.2.1 ∧ c.2.2.2.1 ≤ 32 * (pre.length : Int)) pre) own [a1, a2] s₁ { s₁ with heap := h', toks := tk } :=
  kst_end (o, num, tn, bits, tb) F N (fun p hp => by
      rcases List.mem_cons.mp hp with rfl | hp
      · exact .tail _ (.head _)
      · rw [List.mem_singleton.mp hp]; exact .tail _ (.tail _ (.head _))) (fun p hp => .tail _ (.tail _ (.tail _ hp))) rfl hd (fun p hp => by cases List.mem_singleton.mp hp; exact hk) (fun z hz1 hz2 hz3 => hr z hz1 (hz2 _ (.head _)) hz3) ⟨h1, h2⟩
theorem lsh_upd {a1 a2 l6 : Addr} {o1 o ol : Obj} {own own' : List (Addr × Obj)} (n : @Ne Nat l6 a2) (h1 : ∀ p ∈ own, p.1 ≠ a2) (h2 : ∀ p ∈ own', p.1 ≠ a2) (n1 : @Ne Nat a1 a2 := by lia) :
    UpdF a2 o (((l6, ol) :: (a1, o1) :: (a2, o) :: own) ++ own') (fun o' => (l6, ol) :: (a1, o1) :: (a2, o') :: (own ++ own')) :=
  .tail n (.tail n1 (.head fun p hp => (List.mem_append.mp hp).elim (h1 p) (h2 p)))
set_option maxHeartbeats 2000000 in
theorem ct_lshift {l : Addr} {vs : List Value} {cs : List Int} (S : Sit p lz w mean mg mb dp un gd base outer (n + 1) s.heap)
  (hl : s.heap.IsList l vs.toArray) (hi : IntsAre vs cs) (hk : cs.length ≤ 3) (hv : ∀ c ∈ cs, 0 ≤ c ∧ c < 1114112)
  (hret : ∀ ds : List Nat, (∀ c ∈ ds, c < 128) → ds.length ≤ 20 → ∀ t h' tk', s.heap.StaysIn h' → Q (.str ⟨ds.toArray⟩ t) { s with heap := h', toks := tk' }) :
  wpAny (model prog w) (ar dp un gd outer) (call (.ref 170) [.ref l]) Q E s := by
  k_dflt refine' enterC (binds := [(Str.ofString "codes", .ref l)]) S ?k6 ?k7 ?k9 ?kB ?kD ?c2 ?c3 ?c4 ?_
  walk_at "enter_c"
  k_steps
  (rename Fr _ _ _ _ => F5); (rename News _ _ _ _ => N5)
  (rename Obj => o5); (rename Obj.data _ = _ => d5)
  refine' unhalt (kst_list (σ := LC) (fun c => [(L1 + 1 + 1, o1), (L1 + 1, c.1)]) (fun c => [(Str.ofString "bits", .int c.2.2.2.1 c.2.2.2.2)]) (fun c => c.1.data = .cell (some (.int c.2.1 c.2.2.1))) [Str.ofString "units", Str.ofString "unit"] (fun pre c => 0 ≤ c.2.2.2.1 ∧ c.2.2.2.1 ≤ 32 * (pre.length : Int)) ⟨o5, 0, _, 0, ?tb0⟩ rfl hl hi F5 (fun p hp => N5 p (.tail _ hp)) d5 ?hk0 ⟨Int.le_refl _, Int.le_refl _⟩ ?_ ?_)
  case tb0 => exact tk1 + 1
  case hk0 => intro p hp; cases List.mem_singleton.mp hp; rfl
  · rintro ⟨o3, num, tn, bits, tb⟩ pre post x t u h tk own e hmem hoff hf ⟨hp1, hp2⟩ F N
    dsimp only at hf hp1 hp2 F N
    have hx := hv x hmem
    clear F5 N5 d5
    k_steps
    · (rename Fr _ _ _ _ => F6); (rename News _ _ _ _ => N6); (rename (_ < _ ∧ _ ∧ _) => q6)
      have n6 := Nat.ne_of_gt q6.2.2.1
      refine unhalt (kst_listL (σ := LC) (ns := [55296 + (x - 65536).fdiv 1024, 56320 + x.fmod 1024]) (fun c => (_, W.listOf _ _) :: (L1 + 1 + 1, o1) :: (L1 + 1, c.1) :: own) (fun c => [(Str.ofString "bits", .int c.2.2.2.1 c.2.2.2.2)]) (fun c => c.1.data = .cell (some (.int c.2.1 c.2.2.1))) [] (fun pre c => 0 ≤ c.2.2.2.1 ∧ c.2.2.2.1 ≤ bits + 16 * (pre.length : Int)) ⟨o3, num, tn, bits, tb⟩ rfl (fun _ => .head _) (.cons _ _ (.cons _ _ .nil)) F6
        (fun p hp => N6 p (by rcases List.mem_cons.mp hp with rfl | hp; exact .head _; exact .tail _ (.tail _ hp))) hf (fun p hp => by cases List.mem_singleton.mp hp; with_unfolding_all rfl) ⟨hp1, Int.le_add_of_nonneg_right (Int.le_refl _)⟩ ?_ ?_)
      · rintro ⟨o7, num7, tn7, bits7, tb7⟩ pre7 post7 n7 t7 u7 h7 tk7 own7 e7 _ hoff7 hf7 ⟨hp71, hp72⟩ F7 N7
        dsimp only at hf7 hp71 hp72 F7 N7
        clear F6 N6
        k_steps
        refine storeX_C F7 N7 rfl (lsh_upd n6 (fun p hp => hoff p hp _ (.tail _ (.head _))) (fun p hp => hoff7 p hp _ (.tail _ (.tail _ (.head _))))) hf7 (fun h8 o8 F8 N8 d8 => ?_) rfl rfl
        clear F7 N7
        k_steps
        exact lin_end (by assumption) (by assumption) (by assumption) (by with_unfolding_all rfl) (by walk_at "hrs") (by lia) (by simp; lia) rfl
      · rintro ⟨o7, num7, tn7, bits7, tb7⟩ u7 h7 tk7 hf7 ⟨hp71, hp72⟩ F7 N7
        dsimp only at hf7 hp71 hp72 F7 N7
        clear F6 N6
        k_steps
        exact lsh_end (by assumption) (by assumption) (by assumption) (by with_unfolding_all rfl) (by walk_at "hrs") hp71 (by simp at hp72 ⊢; lia)
    · (rename (∀ p : Addr × Obj, p ∈ _ → p.1 < _) => q6); (rename Fr _ _ _ _ => F6); (rename News _ _ _ _ => N6)
      have n6 := Nat.ne_of_gt (q6 _ (.tail _ (.head _)))
      refine unhalt (kst_listL (σ := LC) (ns := [x]) (fun c => (_, W.listOf _ _) :: (L1 + 1 + 1, o1) :: (L1 + 1, c.1) :: own) (fun c => [(Str.ofString "bits", .int c.2.2.2.1 c.2.2.2.2)]) (fun c => c.1.data = .cell (some (.int c.2.1 c.2.2.1))) [] (fun pre c => 0 ≤ c.2.2.2.1 ∧ c.2.2.2.1 ≤ bits + 16 * (pre.length : Int)) ⟨o3, num, tn, bits, tb⟩ rfl (fun _ => .head _) (.cons _ _ .nil) F6
        N6 hf (fun p hp => by cases List.mem_singleton.mp hp; with_unfolding_all rfl) ⟨hp1, Int.le_add_of_nonneg_right (Int.le_refl _)⟩ ?_ ?_)
      · rintro ⟨o7, num7, tn7, bits7, tb7⟩ pre7 post7 n7 t7 u7 h7 tk7 own7 e7 _ hoff7 hf7 ⟨hp71, hp72⟩ F7 N7
        dsimp only at hf7 hp71 hp72 F7 N7
        clear F6 N6
        k_steps
        refine storeX_C F7 N7 rfl (lsh_upd n6 (fun p hp => hoff p hp _ (.tail _ (.head _))) (fun p hp => hoff7 p hp _ (.tail _ (.tail _ (.head _))))) hf7 (fun h8 o8 F8 N8 d8 => ?_) rfl rfl
        clear F7 N7
        k_steps
        exact lin_end (by assumption) (by assumption) (by assumption) (by with_unfolding_all rfl) (by walk_at "hrs") (by lia) (by simp; lia) rfl
      · rintro ⟨o7, num7, tn7, bits7, tb7⟩ u7 h7 tk7 hf7 ⟨hp71, hp72⟩ F7 N7
        dsimp only at hf7 hp71 hp72 F7 N7
        clear F6 N6
        k_steps
        exact lsh_end (by assumption) (by assumption) (by assumption) (by with_unfolding_all rfl) (by walk_at "hrs") hp71 (by simp at hp72 ⊢; lia)
  · rintro ⟨o3, num, tn, bits, tb⟩ u h tk hf ⟨hp1, hp2⟩ F N
    dsimp only at hf hp1 hp2 F N
    clear F5 N5 d5
    have hb5 : (bits + 5).fdiv 6 = (bits + 5) / 6 := Int.fdiv_eq_ediv_of_nonneg _ (by decide)
    have hc : 0 ≤ (bits + 5).fdiv 6 ∧ (bits + 5).fdiv 6 ≤ 17 := by lia
    have he : (6 * (bits + 5).fdiv 6 - bits).toNat ≤ 5 := by lia
    have hpw : -(2 ^ 64) < (2 : Int) ^ (6 * (bits + 5).fdiv 6 - bits).toNat ∧ (2 : Int) ^ (6 * (bits + 5).fdiv 6 - bits).toNat < 2 ^ 64 := by
      have h5 : ∀ k : Nat, k ≤ 5 → -(2 ^ 64) < (2 : Int) ^ k ∧ (2 : Int) ^ k < 2 ^ 64 := by decide
      exact h5 _ he
    obtain ⟨cnt, hcn⟩ : ∃ cnt : Nat, (bits + 5).fdiv 6 = (cnt : Int) := ⟨_, (Int.toNat_of_nonneg hc.1).symm⟩
    k_steps
    (rename IsRange _ _ _ _ _ _ _ _ => hr4); (rename Fr _ _ _ _ => F4); (rename News _ _ _ _ => N4)
    refine comp_range (n := cnt) rfl F4 N4 hr4 (small_ab (by lia) (by lia) (by lia)) (by rw [rangeSize_ab (by lia)]; lia) (by rw [sizeLine_eq]; lia) ?_
    intro g
    refine comp_each (fun i y => ∃ t, y = .str ⟨#[(sgn.getD (num * 2 ^ (6 * (bits + 5).fdiv 6 - bits).toNat / 64 ^ (cnt - 1 - i) % 64).toNat 0).toNat]⟩ t) ?_ trivial ?_
    · rintro i v I oI C oC D m₂ ys h tk E' hi ⟨_, t, rfl⟩ hC hx F5 N5 off ne
      have hne0 : (64 : Int) ^ ((bits + 5).fdiv 6 - 1 - (0 + (i : Int) * 1)).toNat ≠ 0 := Int.ne_of_gt (pow64_pos _)
      have hlg : ((64 : Int) ^ ((bits + 5).fdiv 6 - 1 - (0 + (i : Int) * 1)).toNat).natAbs.log2 < 9000 := log64 (by lia)
      k_steps
      refine LCg.CompEnd.intro F5 N5 _ (fun _ hp => hp) off trivial ⟨rfl, _, congrArg (fun z => Value.str z _) ?_⟩
      have e1 : ((bits + 5).fdiv 6 - 1 - (0 + (i : Int) * 1)).toNat = cnt - 1 - i := by lia
      rw [e1, Int.fdiv_eq_ediv_of_nonneg _ (Int.le_of_lt (pow64_pos _)), Int.fmod_eq_emod_of_nonneg _ (by lia)]
      exact item_sign (by lia) (by lia)
    · intro ys hyl hy
      k_steps
      (rename News _ _ _ _ => N9)
      have hS := strsAre_of hyl hy
      have hSc := hS.carried
      refine KT.join_1 (ys := ys) (l := (List.range cnt).map fun i => (sgn.getD (num * 2 ^ (6 * (bits + 5).fdiv 6 - bits).toNat / 64 ^ (cnt - 1 - i) % 64).toNat 0).toNat) (g := fun d => (⟨#[d]⟩ : PySem.Str)) ⟨_, (N9 _ (.head _)).1, rfl, _, rfl⟩ (by rw [List.map_map] at hSc ⊢; exact hSc) (fun _ _ => rfl) (by simp; lia) fun t' k' _ => ?_
      rw [join_singles]
      have hds : ∀ c ∈ (List.range cnt).map (fun i => (sgn.getD (num * 2 ^ (6 * (bits + 5).fdiv 6 - bits).toNat / 64 ^ (cnt - 1 - i) % 64).toNat 0).toNat), c < 128 := by
        intro c hc
        obtain ⟨i, _, rfl⟩ := List.mem_map.mp hc
        exact sgn_small _
      have hsl : ((List.range cnt).map (fun i => (sgn.getD (num * 2 ^ (6 * (bits + 5).fdiv 6 - bits).toNat / 64 ^ (cnt - 1 - i) % 64).toNat 0).toNat)).length ≤ 17 := by simp; lia
      generalize (List.range cnt).map (fun i => (sgn.getD (num * 2 ^ (6 * (bits + 5).fdiv 6 - bits).toNat / 64 ^ (cnt - 1 - i) % 64).toNat 0).toNat) = ds at hds hsl
      have hstl : ({ cps := ds.toArray } : PySem.Str).length ≤ 4000 := by simp [Str.length]; lia
      k_steps
      exact ret_v (s := s) (hret ([38] ++ ds ++ [45]) (wrap_small hds) (by simp; lia) _) (by rw [wrap_amp]) (Fr.keep (by assumption))
end

section
variable {prog p : Program} {lz : List Str} {w : World} {mean : ExcName → Option Value} {mg mb : Str → Option Value} {dp un : Nat} {gd : Option (List Code)} {base : Heap} {outer : List Env} {n : Nat}
  {Q E : Value → Shared → Prop} {s : Shared}
theorem Sit.useX {h₀ : Heap} {L a : Addr} {m : Str → Option Value} {cn : Str} {cs : Scope} {ccd : Value} (B : Below (ar dp un gd outer) base outer h₀) (F : Fr h₀ L s.heap m) (X : (hd.heap_39 w.params).In h₀) (T : Top p lz mean mg mb h₀)
    (room : Room dp (n + 1)) (units : Units un (n + 1)) (hk : cs.kind = .function := by rfl) : Sit p lz w mean mg mb (dp + 1) (un + 3) gd base (envOfC cn cs L a ccd :: outer) n s.heap := by
  refine ⟨X.keeps F.keep, T.keeps F.keep, ⟨rfl, fun b o e => F.keep b o (B.stays b o e), Heap.FunFrames.cons (by rw [show (envOfC cn cs L a ccd).scope = cs from rfl, hk]; decide) rfl F.ns ?_ (B.frames.of_keeps fun b o e _ => ⟨o, F.keep b o e, rfl⟩)⟩, room.deep, units.up (by decide)⟩
  cases hq : base.get? L with
  | none => rfl
  | some o => exact absurd (Nat.lt_of_lt_of_le (Heap.lt_size (B.stays L o hq)) F.above) (Nat.lt_irrefl _)
theorem ret_lit {x : PySem.Str} {t : Tok} {h' : Heap} {tk' : Nat} (hret : ∀ ds : List Nat, (∀ c ∈ ds, c < 256) → ds.length ≤ 20 → ∀ t h' tk', s.heap.StaysIn h' → Q (.str ⟨ds.toArray⟩ t) { s with heap := h', toks := tk' })
    (k : s.heap.StaysIn h') (h : ((x.cps.toList.all fun c => decide (c < 256)) && decide (x.cps.toList.length ≤ 20)) = true) : Q (.str x t) { s with heap := h', toks := tk' } := by
  rw [Bool.and_eq_true, List.all_eq_true, decide_eq_true_eq] at h
  have := hret x.cps.toList (fun c hc => of_decide_eq_true (h.1 c hc)) h.2 t h' tk' k
  rwa [Array.toArray_toList] at this
theorem log10 {k : Nat} (h : k ≤ 2) : ((10 : Int) ^ k).natAbs.log2 < 9000 := by
  have : ∀ k, k ≤ 2 → ((10 : Int) ^ k).natAbs.log2 < 9000 := by decide
  exact this k h
theorem ten_ne {k : Nat} : (10 : Int) ^ k ≠ 0 := Int.ne_of_gt (Int.pow_pos (by decide))
theorem all_c {P : Int → Prop} {a : Int} {l : List Int} (h : P a) (k : ∀ x ∈ l, P x) : ∀ x ∈ a :: l, P x := fun x hx => by
  rcases List.mem_cons.mp hx with rfl | hx
  · exact h
  · exact k x hx
theorem getD_bound {l : List Int} {B : Int} (hB : 0 < B) (h : ∀ x ∈ l, 0 ≤ x ∧ x < B) (j : Nat) : 0 ≤ l.getD j 0 ∧ l.getD j 0 < B := by
  rw [List.getD_eq_getElem?_getD]
  cases q : l[j]? with
  | none => exact ⟨Int.le_refl _, hB⟩
  | some x => exact h x (List.mem_of_getElem? q)
theorem fmod_in {x B : Int} (hB : 0 < B) : 0 ≤ x.fmod B ∧ x.fmod B < B := by
  rw [Int.fmod_eq_emod_of_nonneg _ (Int.le_of_lt hB)]
  exact ⟨Int.emod_nonneg _ (Int.ne_of_gt hB), Int.emod_lt_of_pos _ hB⟩
set_option maxHeartbeats 2000000 in
theorem ct_piece {c : Int} {t : Tok} (S : Sit p lz w mean mg mb dp un gd base outer (n + 2) s.heap)
  (hret : ∀ ds : List Nat, (∀ c ∈ ds, c < 256) → ds.length ≤ 20 → ∀ t h' tk', s.heap.StaysIn h' → Q (.str ⟨ds.toArray⟩ t) { s with heap := h', toks := tk' }) :
  wpAny (model prog w) (ar dp un gd outer) (call (.ref 175) [.int c t]) Q E s := by
  k_dflt refine' enterC (binds := [(Str.ofString "cell", .int c t)]) S ?k6 ?k7 ?k9 ?kB ?kD ?c2 ?c3 ?c4 ?_
  walk_at "enter_c"
  k_steps
  · have hy := fmod_in (x := (c.fdiv 4).fdiv 16) (B := 256) (by decide)
    have hv := getD_bound (l := [38, 45, 44, 65, 128, 255, 10, 31, 127, 32, 126, 43, 47, ((c.fdiv 4).fdiv 16).fmod 256, 97, 38]) (B := 256) (by decide) (by
      repeat refine all_c (by first | decide | exact hy) ?_
      exact fun _ h => nomatch h) ((c.fdiv 4).fmod 16).toNat
    generalize ([38, 45, 44, 65, 128, 255, 10, 31, 127, 32, 126, 43, 47, ((c.fdiv 4).fdiv 16).fmod 256, 97, 38] : List Int).getD ((c.fdiv 4).fmod 16).toNat 0 = v at hv
    refine chr_of_range hv.1 (by lia) ?_
    k_steps
    exact hret [v.toNat] (by intro c hc; cases List.mem_singleton.mp hc; lia) (Nat.succ_le_succ (Nat.zero_le _)) _ _ _ (Fr.keep (by assumption))
  · have hy := fmod_in (x := c.fdiv 4) (B := 8) (by decide)
    obtain ⟨cnt, hcn⟩ : ∃ cnt : Nat, 1 + (c.fdiv 4).fmod 8 = (cnt : Int) := ⟨_, (Int.toNat_of_nonneg (by lia)).symm⟩
    (rename IsRange _ _ _ _ _ _ _ _ => hr4); (rename Fr _ _ _ _ => F4); (rename News _ _ _ _ => N4)
    refine comp_range (n := cnt) rfl F4 N4 hr4 (small_ab (by lia) (by lia) (by lia)) (by rw [rangeSize_ab (by lia)]; lia) (by rw [sizeLine_eq]; lia) ?_
    intro g
    refine comp_each (fun i y => ∃ t, y = .str ⟨#[(sgn.getD ((((c.fdiv 4).fdiv 8).fdiv (64 ^ i)).fmod 64).toNat 0).toNat]⟩ t) ?_ trivial ?_
    · rintro i v I oI C oC D m₂ ys h tk E' hi ⟨_, t, rfl⟩ hC hx F5 N5 off ne
      have hne0 : (64 : Int) ^ (0 + (i : Int) * 1).toNat ≠ 0 := Int.ne_of_gt (pow64_pos _)
      have hlg : ((64 : Int) ^ (0 + (i : Int) * 1).toNat).natAbs.log2 < 9000 := log64 (by lia)
      k_steps
      refine LCg.CompEnd.intro F5 N5 _ (fun _ hp => hp) off trivial ⟨rfl, _, congrArg (fun z => Value.str z _) ?_⟩
      have e1 : (0 + (i : Int) * 1).toNat = i := by lia
      rw [e1]
      have := fmod_in (x := ((c.fdiv 4).fdiv 8).fdiv (64 ^ i)) (B := 64) (by decide)
      exact item_sign this.1 this.2
    · intro ys hyl hy
      k_steps
      (rename News _ _ _ _ => N9)
      have hS := strsAre_of hyl hy
      have hSc := hS.carried
      refine KT.join_1 (ys := ys) (l := (List.range cnt).map fun i => (sgn.getD ((((c.fdiv 4).fdiv 8).fdiv (64 ^ i)).fmod 64).toNat 0).toNat) (g := fun d => (⟨#[d]⟩ : PySem.Str)) ⟨_, (N9 _ (.head _)).1, rfl, _, rfl⟩ (by rw [List.map_map] at hSc ⊢; exact hSc) (fun _ _ => rfl) (by simp; lia) fun t' k' _ => ?_
      rw [join_singles]
      have hds : ∀ d ∈ (List.range cnt).map (fun i => (sgn.getD ((((c.fdiv 4).fdiv 8).fdiv (64 ^ i)).fmod 64).toNat 0).toNat), d < 128 := by
        intro d hd
        obtain ⟨i, _, rfl⟩ := List.mem_map.mp hd
        exact sgn_small _
      have hsl : ((List.range cnt).map (fun i => (sgn.getD ((((c.fdiv 4).fdiv 8).fdiv (64 ^ i)).fmod 64).toNat 0).toNat)).length ≤ 8 := by simp; lia
      generalize (List.range cnt).map (fun i => (sgn.getD ((((c.fdiv 4).fdiv 8).fdiv (64 ^ i)).fmod 64).toNat 0).toNat) = ds at hds hsl
      have hstl : ({ cps := ds.toArray } : PySem.Str).length ≤ 4000 := by simp [Str.length]; lia
      k_steps
      exact ret_v (s := s) (hret ([38] ++ ds ++ [45]) (fun c hc => Nat.lt_of_lt_of_le (wrap_small hds c hc) (by decide)) (by simp; lia) _) (by rw [wrap_amp]) (Fr.keep (by assumption))
  · have hy := fmod_in (x := (c.fdiv 4).fdiv 1000) (B := 3) (by decide)
    obtain ⟨cnt, hcn⟩ : ∃ cnt : Nat, 1 + ((c.fdiv 4).fdiv 1000).fmod 3 = (cnt : Int) := ⟨_, (Int.toNat_of_nonneg (by lia)).symm⟩
    (rename IsRange _ _ _ _ _ _ _ _ => hr4); (rename Fr _ _ _ _ => F4); (rename News _ _ _ _ => N4)
    refine comp_range (n := cnt) rfl F4 N4 hr4 (small_ab (by lia) (by lia) (by lia)) (by rw [rangeSize_ab (by lia)]; lia) (by rw [sizeLine_eq]; lia) ?_
    intro g
    refine comp_each (fun i y => ∃ t, y = .int ([233, 128512, 97, 55357, 56832, 8364, 38, 1114111, 127, ((c.fdiv 4).fdiv 4096).fmod 1114112].getD (((c.fdiv 4).fdiv (10 ^ i)).fmod 10).toNat 0) t) ?_ trivial ?_
    · rintro i v I oI C oC D m₂ ys h tk E' hi ⟨_, t, rfl⟩ hC hx F5 N5 off ne
      have hne0 : (10 : Int) ^ (0 + (i : Int) * 1).toNat ≠ 0 := ten_ne
      have hlg : ((10 : Int) ^ (0 + (i : Int) * 1).toNat).natAbs.log2 < 9000 := log10 (by lia)
      k_steps
      have e1 : (0 + (i : Int) * 1).toNat = i := by lia
      exact LCg.CompEnd.intro F5 N5 _ (fun _ hp => hp) off trivial ⟨rfl, _, by rw [e1]⟩
    · intro ys hyl hy2
      k_steps
      (rename Fr _ _ _ _ => F6); (rename News _ _ _ _ => N6)
      refine ct_lshift (n := n) (Sit.useX B1 F6 X1 T1 (by walk_at "sitn") (by walk_at "sitn")) ⟨_, (N6 _ (.head _)).1, rfl, _, rfl⟩ (intsAre_of hyl hy2) (by simp; lia) ?_ ?_
      · intro x hx
        obtain ⟨i, _, rfl⟩ := List.mem_map.mp hx
        have := fmod_in (x := (c.fdiv 4).fdiv 4096) (B := 1114112) (by decide)
        refine getD_bound (by decide) ?_ _
        repeat refine all_c (by first | decide | exact this) ?_
        exact fun _ h => nomatch h
      · intro ds h1 h2 t7 h7 tk7 k7
        have F7 := fr_stays F6 k7
        k_steps
        exact hret ds (fun c hc => Nat.lt_trans (h1 c hc) (by decide)) h2 _ _ _ (Fr.keep (by assumption))
  all_goals exact ret_lit hret (Fr.keep (by assumption)) (by decide +kernel)
end

/-- the units of a shift, by the law -/
noncomputable def uR (ns : List Nat) (b : Nat) : Except Nat (List Int) :=
  if ns.length % 4 = 1 then .error (b + ns.length - 1)
  else if wTot (nInts ns) % 2 ^ (6 * ns.length % 8) ≠ 0 then .error (b + ns.length - 1)
  else if 6 * ns.length / 8 % 2 = 1 then .error (b + ns.length)
  else .ok (digs 65536 (wTot (nInts ns) / 2 ^ (6 * ns.length - 16 * (6 * ns.length / 16))) (6 * ns.length / 16))
theorem shR_uR (ns : List Nat) (b : Nat) : shR ns b = match uR ns b with | .error k => .error k | .ok us => sc b 0 us 0 := by
  unfold shR uR
  split
  · rfl
  · split
    · rfl
    · split <;> rfl
theorem find_sign {j : Nat} (h : j < 64) : Txt.find (Str.ofString "ABCDEFGHIJKLMNOPQRSTUVWXYZabcdefghijklmnopqrstuvwxyz0123456789+,") ⟨#[(sgn.getD j 0).toNat]⟩ = (j : Int) := by
  have key : ∀ j : Nat, j < 64 → Txt.find (Str.ofString "ABCDEFGHIJKLMNOPQRSTUVWXYZabcdefghijklmnopqrstuvwxyz0123456789+,") ⟨#[(sgn.getD j 0).toNat]⟩ = (j : Int) := by decide +kernel
  exact key j h
theorem signs_at {cs ns : List Nat} {pre post : List Int} {x : Nat} (hcs : cs = ns.map fun j => (sgn.getD j 0).toNat) (e : KStt.codes ⟨cs.toArray⟩ = pre ++ (x : Int) :: post) : ∃ h : pre.length < ns.length, x = (sgn.getD ns[pre.length] 0).toNat := by
  have hl := congrArg List.length e
  have hc : (KStt.codes ⟨cs.toArray⟩).length = ns.length := by simp [KStt.codes, hcs]
  rw [hc] at hl
  simp only [List.length_append, List.length_cons] at hl
  have hlt : pre.length < ns.length := by lia
  refine ⟨hlt, ?_⟩
  have h1 : (KStt.codes ⟨cs.toArray⟩)[pre.length]? = some (x : Int) := by rw [e]; simp
  simp only [KStt.codes, hcs, List.getElem?_map, List.getElem?_eq_getElem hlt, Option.map_some] at h1
  have := Option.some.inj h1
  lia
theorem signs_step {ns : List Nat} {i : Nat} (h : i < ns.length) : wTot (nInts (ns.take (i + 1))) = wTot (nInts (ns.take i)) * 64 + (ns[i] : Int) := by
  rw [List.take_add_one, List.getElem?_eq_getElem h]
  unfold nInts wTot
  rw [List.map_append, List.foldl_append]
  simp only [Option.toList_some, List.map_cons, List.map_nil, List.foldl_cons, List.foldl_nil]
  lia
theorem lu_b (m : Nat) : 6 * m - 16 * (6 * m / 16) ≤ 15 := by omega
theorem lu_i {a : Int} {n : Nat} (h : a = (n : Int)) {i : Nat} (hi : i < n) (hn : n ≤ 200) : (a - 1 - (0 + (i : Int) * 1)).toNat = n - 1 - i ∧ (a - 1 - (0 + (i : Int) * 1)).toNat ≤ 500 ∧ 0 ≤ a - 1 - (0 + (i : Int) * 1) ∧ a - 1 - (0 + (i : Int) * 1) ≤ 1000000 := by
  subst h; refine ⟨by omega, by omega, by omega, by omega⟩
theorem lu_facts {z : PySem.Str} {m : Nat} (hl : z.length = m) (hm : m ≤ 400) (e2 : (6 * (z.length : Int)).fdiv 16 = ((6 * m / 16 : Nat) : Int)) : m < 2 ^ 62 ∧ -(2 ^ 64) < (z.length : Int) ∧ (z.length : Int) < 2 ^ 64 ∧ (6 * (z.length : Int)).fmod 8 ≤ 1000000 ∧
    0 ≤ 6 * (z.length : Int) - 16 * (6 * (z.length : Int)).fdiv 16 ∧ 6 * (z.length : Int) - 16 * (6 * (z.length : Int)).fdiv 16 ≤ 1000000 ∧ 6 * (z.length : Int) - 16 * (6 * (z.length : Int)).fdiv 16 < 9000 ∧
    0 ≤ (6 * (z.length : Int)).fdiv 16 ∧ (6 * (z.length : Int)).fdiv 16 < 2 ^ 40 ∧ 6 * m / 16 ≤ 200 := by
  rw [e2, hl, Int.fmod_eq_emod_of_nonneg _ (by decide)]
  clear e2 hl
  refine ⟨by omega, by omega, by omega, by omega, by omega, by omega, by omega, by omega, by omega, by omega⟩
theorem log16 {k : Nat} (h : k ≤ 500) : ((65536 : Int) ^ k).natAbs.log2 < 9000 := by
  have e : ((65536 : Int) ^ k).natAbs = 2 ^ (16 * k) := by rw [Int.natAbs_pow, Nat.pow_mul]; rfl
  rw [e]
  exact (Nat.log2_lt (Nat.ne_of_gt (Nat.pow_pos (by decide)))).mpr (Nat.pow_lt_pow_right (by decide) (by lia))
theorem pow_small {k : Nat} (h : k ≤ 15) : -(2 ^ 64) < (2 : Int) ^ k ∧ (2 : Int) ^ k < 2 ^ 64 := by
  have : ∀ k : Nat, k ≤ 15 → -(2 ^ 64) < (2 : Int) ^ k ∧ (2 : Int) ^ k < 2 ^ 64 := by decide
  exact this k h
section
variable {prog p : Program} {lz : List Str} {w : World} {mean : ExcName → Option Value} {mg mb : Str → Option Value} {dp un : Nat} {gd : Option (List Code)} {base : Heap} {outer : List Env} {n : Nat}
  {Q E : Value → Shared → Prop} {s : Shared}
set_option maxHeartbeats 2000000 in
theorem ct_lunits {cs ns : List Nat} {b : Nat} {t t1 : Tok} (S : Sit p lz w mean mg mb dp un gd base outer (n + 1) s.heap)
  (hcs : cs = ns.map fun j => (sgn.getD j 0).toNat) (hns : ∀ j ∈ ns, j < 64) (hk : cs.length ≤ 400) (hb : b ≤ 100000)
  (hbad : ∀ k : Nat, uR ns b = .error k → ∀ T u h' tk', s.heap.StaysIn h' → h'.get? T = some { cls := .type "tuple", data := .seq [.none, .int k u].toArray } → s.heap.get? T = none → Q (.ref T) { s with heap := h', toks := tk' })
  (hok : ∀ us : List Int, uR ns b = .ok us → ∀ T u D ys e h' tk', s.heap.StaysIn h' → h'.get? T = some { cls := .type "tuple", data := .seq [.ref D, .int b u].toArray } → s.heap.get? T = none → h'.get? D = some (W.listOf ys.toArray e) → s.heap.get? D = none → IntsAre ys us → Q (.ref T) { s with heap := h', toks := tk' }) :
  wpAny (model prog w) (ar dp un gd outer) (call (.ref 180) [.str ⟨cs.toArray⟩ t, .int b t1]) Q E s := by
  k_dflt refine' enterC (binds := [(Str.ofString "run", .str ⟨cs.toArray⟩ t), (Str.ofString "begin", .int b t1)]) S ?k6 ?k7 ?k9 ?kB ?kD ?c2 ?c3 ?c4 ?_
  walk_at "enter_c"
  k_steps
  (rename Fr _ _ _ _ => F5); (rename News _ _ _ _ => N5)
  (rename Obj => o5); (rename Obj.data _ = _ => d5)
  refine' unhalt (KStt.kst_text (σ := Obj × Int × Tok) (fun c => [(L1 + 1 + 1, o1), (L1 + 1, c.1)]) (fun _ => []) (fun c => c.1.data = .cell (some (.int c.2.1 c.2.2))) [] (fun pre c => c.2.1 = wTot (nInts (ns.take pre.length))) ⟨o5, 0, _⟩ rfl F5 N5 d5 (fun _ h => nomatch h) rfl ?_ ?_)
  · rintro ⟨o3, num, tn⟩ pre post x t u h tk own e hoff hf hp F N
    dsimp only at hf hp F N
    obtain ⟨hlt, rfl⟩ := signs_at hcs e
    have hj := hns _ (List.getElem_mem hlt)
    have hstep := signs_step hlt
    clear F5 N5 d5
    have hfd := find_sign hj
    k_steps
    · exfalso; omega
    · (rename Obj => o6); (rename Fr _ _ _ _ => F6); (rename News _ _ _ _ => N6); (rename Obj.data _ = _ => d6)
      rw [hfd, hp, ← hstep] at d6
      exact kst_end (o6, _, _) F6 N6 (fun p hp => by
        rcases List.mem_cons.mp hp with rfl | hp
        · exact .head _
        · rw [List.mem_singleton.mp hp]; exact .tail _ (.head _)) (fun p hp => .tail _ (.tail _ hp)) rfl d6 (fun _ h => nomatch h) (by walk_at "hrs") (by rw [List.length_append]; rfl)
  · rintro ⟨o3, num, tn⟩ u h tk hf hp F N
    dsimp only at hf hp F N
    rw [show (KStt.codes ⟨cs.toArray⟩).length = ns.length by simp [KStt.codes, hcs], List.take_length] at hp
    have hcn : cs.length = ns.length := by rw [hcs, List.length_map]
    clear F5 N5 d5
    have hl : (⟨cs.toArray⟩ : PySem.Str).length = ns.length := (str_len cs).trans hcn
    generalize hm : ns.length = m at hl
    have e4 : ((⟨cs.toArray⟩ : PySem.Str).length : Int).fmod 4 = ((m % 4 : Nat) : Int) := by rw [hl, Int.fmod_eq_emod_of_nonneg _ (by decide)]; rfl
    have e1 : (6 * ((⟨cs.toArray⟩ : PySem.Str).length : Int)).fmod 8 = ((6 * m % 8 : Nat) : Int) := by rw [hl, Int.fmod_eq_emod_of_nonneg _ (by decide)]; rfl
    have e2 : (6 * ((⟨cs.toArray⟩ : PySem.Str).length : Int)).fdiv 16 = ((6 * m / 16 : Nat) : Int) := by rw [hl, Int.fdiv_eq_ediv_of_nonneg _ (by decide)]; rfl
    have e3 : ((6 * ((⟨cs.toArray⟩ : PySem.Str).length : Int)).fdiv 8).fmod 2 = ((6 * m / 8 % 2 : Nat) : Int) := by rw [hl, Int.fdiv_eq_ediv_of_nonneg _ (by decide), Int.fmod_eq_emod_of_nonneg _ (by decide)]; rfl
    have h1 : ((6 * ((⟨cs.toArray⟩ : PySem.Str).length : Int)).fmod 8).toNat = 6 * m % 8 := by rw [e1]; rfl
    have h2 : (6 * ((⟨cs.toArray⟩ : PySem.Str).length : Int) - 16 * (6 * ((⟨cs.toArray⟩ : PySem.Str).length : Int)).fdiv 16).toNat = 6 * m - 16 * (6 * m / 16) := by rw [e2, hl]; exact Int.toNat_sub (6 * m) (16 * (6 * m / 16))
    have hpw1 := pow_small (k := ((6 * ((⟨cs.toArray⟩ : PySem.Str).length : Int)).fmod 8).toNat) (by rw [h1]; exact Nat.le_trans (Nat.le_of_lt (Nat.mod_lt _ (by decide))) (by decide))
    have hpw2 := pow_small (k := (6 * ((⟨cs.toArray⟩ : PySem.Str).length : Int) - 16 * (6 * ((⟨cs.toArray⟩ : PySem.Str).length : Int)).fdiv 16).toNat) (by rw [h2]; exact lu_b m)
    have hn1 : (2 : Int) ^ ((6 * ((⟨cs.toArray⟩ : PySem.Str).length : Int)).fmod 8).toNat ≠ 0 := Int.ne_of_gt (Int.pow_pos (by decide))
    have hn2 : (2 : Int) ^ (6 * ((⟨cs.toArray⟩ : PySem.Str).length : Int) - 16 * (6 * ((⟨cs.toArray⟩ : PySem.Str).length : Int)).fdiv 16).toNat ≠ 0 := Int.ne_of_gt (Int.pow_pos (by decide))
    have hfm : num.fmod (2 ^ ((6 * ((⟨cs.toArray⟩ : PySem.Str).length : Int)).fmod 8).toNat) = wTot (nInts ns) % 2 ^ (6 * m % 8) := by rw [h1, hp, Int.fmod_eq_emod_of_nonneg _ (Int.pow_nonneg (by decide))]
    have hfd : num.fdiv (2 ^ (6 * ((⟨cs.toArray⟩ : PySem.Str).length : Int) - 16 * (6 * ((⟨cs.toArray⟩ : PySem.Str).length : Int)).fdiv 16).toNat) = wTot (nInts ns) / 2 ^ (6 * m - 16 * (6 * m / 16)) := by rw [h2, hp, Int.fdiv_eq_ediv_of_nonneg _ (Int.pow_nonneg (by decide))]
    have hu : uR ns b = if m % 4 = 1 then .error (b + m - 1) else if wTot (nInts ns) % 2 ^ (6 * m % 8) ≠ 0 then .error (b + m - 1) else if 6 * m / 8 % 2 = 1 then .error (b + m) else .ok (digs 65536 (wTot (nInts ns) / 2 ^ (6 * m - 16 * (6 * m / 16))) (6 * m / 16)) := by subst hm; rfl
    rw [hu] at hbad hok
    have hm0 : m = 0 → wTot (nInts ns) = 0 := fun q => by rw [List.eq_nil_of_length_eq_zero (hm.trans q)]; rfl
    obtain ⟨f1, f2, f3, f4, f5, f6, f7, f8, f9, f10⟩ := lu_facts hl (by rw [← hm, ← hcn]; exact hk) e2
    clear hu hp hcs
    k_steps
    · (rename Fr _ _ _ _ => F6); (rename News _ _ _ _ => N6)
      have z := (N6 _ (.head _)).1
      rw [show ((b : Int) + ((⟨cs.toArray⟩ : PySem.Str).length : Int) - 1) = ((b + m - 1 : Nat) : Int) by lia] at z
      exact hbad _ (if_pos (by lia)) _ _ _ _ (Fr.keep F6) z (N6 _ (.head _)).2.2
    · (rename Fr _ _ _ _ => F6); (rename News _ _ _ _ => N6)
      (rename Int.fmod num _ ≠ 0 => c2); rw [hfm] at c2
      have hm1 : m ≠ 0 := fun q => c2 (by rw [hm0 q]; exact Int.zero_emod _)
      have z := (N6 _ (.head _)).1
      rw [show ((b : Int) + ((⟨cs.toArray⟩ : PySem.Str).length : Int) - 1) = ((b + m - 1 : Nat) : Int) by lia] at z
      exact hbad _ ((if_neg (by lia)).trans (if_pos c2)) _ _ _ _ (Fr.keep F6) z (N6 _ (.head _)).2.2
    · (rename Fr _ _ _ _ => F6); (rename News _ _ _ _ => N6)
      (rename Int.fmod num _ = 0 => c2); rw [hfm] at c2
      have z := (N6 _ (.head _)).1
      rw [show ((b : Int) + ((⟨cs.toArray⟩ : PySem.Str).length : Int)) = ((b + m : Nat) : Int) by lia] at z
      exact hbad _ ((if_neg (by lia)).trans ((if_neg (by simp [c2])).trans (if_pos (by lia)))) _ _ _ _ (Fr.keep F6) z (N6 _ (.head _)).2.2
    · (rename Int.fmod num _ = 0 => c2); rw [hfm] at c2
      replace hok := hok _ ((if_neg (by lia)).trans ((if_neg (by simp [c2])).trans (if_neg (by lia))))
      (rename IsRange _ _ _ _ _ _ _ _ => hr4); (rename Fr _ _ _ _ => F4); (rename News _ _ _ _ => N4)
      refine comp_range (n := 6 * m / 16) rfl F4 N4 hr4 (small_ab (Int.le_refl 0) f8 f9) (by rw [rangeSize_ab f8, Int.sub_zero, e2]) (by rw [sizeLine_eq]; exact Nat.le_trans f10 (by decide)) ?_
      intro g
      refine comp_each (fun i y => ∃ t, y = .int (wTot (nInts ns) / 2 ^ (6 * m - 16 * (6 * m / 16)) / 65536 ^ (6 * m / 16 - 1 - i) % 65536) t) ?_ trivial ?_
      · rintro i v I oI C oC D m₂ ys h tk E' hi ⟨_, t, rfl⟩ hC hx F5 N5 off ne
        obtain ⟨e6, g1, g2, g3⟩ := lu_i e2 hi f10
        have hne0 : (65536 : Int) ^ ((6 * ((⟨cs.toArray⟩ : PySem.Str).length : Int)).fdiv 16 - 1 - (0 + (i : Int) * 1)).toNat ≠ 0 := Int.ne_of_gt (Int.pow_pos (by decide))
        have hlg : ((65536 : Int) ^ ((6 * ((⟨cs.toArray⟩ : PySem.Str).length : Int)).fdiv 16 - 1 - (0 + (i : Int) * 1)).toNat).natAbs.log2 < 9000 := log16 g1
        k_steps
        refine LCg.CompEnd.intro F5 N5 _ (fun _ hp => hp) off trivial ⟨rfl, _, congrArg (fun z => Value.int z _) ?_⟩
        rw [e6, hfd, Int.fdiv_eq_ediv_of_nonneg _ (Int.pow_nonneg (by decide)), Int.fmod_eq_emod_of_nonneg _ (by decide)]
      · intro ys hyl hy
        have hI := intsAre_of hyl hy
        k_steps
        (rename Fr _ _ _ _ => F9); (rename News _ _ _ _ => N9)
        have zD := N9 _ (.tail _ (.head _))
        exact hok _ _ _ _ _ _ _ (Fr.keep F9) (N9 _ (.head _)).1 (N9 _ (.head _)).2.2 zD.1 zD.2.2 hI
end

theorem news_two {h₀ h h' : Heap} {L a b : Addr} {m : Str → Option Value} {o o2 : Obj} {news : List (Addr × Obj)} (F : Fr h₀ L h m) (N : News h₀ L h news) (k : h.StaysIn h') (e1 : h'.get? a = some o) (n1 : h.get? a = none) (e2 : h'.get? b = some o2) (n2 : h.get? b = none) :
    News h₀ L h' ((a, o) :: (b, o2) :: news) := fun p hp => by
  rcases List.mem_cons.mp hp with rfl | hp
  · exact news_add F N k e1 n1 _ (.head _)
  · exact news_add F N k e2 n2 p hp
theorem uR_ok {ns : List Nat} {b : Nat} {us : List Int} (h : uR ns b = .ok us) : us.length = 6 * ns.length / 16 ∧ ∀ u ∈ us, 0 ≤ u ∧ u < 65536 := by
  unfold uR at h
  split at h
  · cases h
  · split at h
    · cases h
    · split at h
      · cases h
      · cases h
        refine ⟨by simp [digs], fun u hu => ?_⟩
        obtain ⟨i, _, rfl⟩ := List.mem_map.mp hu
        lia
theorem sc_law_bad {b j : Nat} {u : Int} {rest : List Int} (h1 : ¬ (55296 ≤ u ∧ u ≤ 56319 ∧ 56320 ≤ rest.headD 0 ∧ rest.headD 0 ≤ 57343)) (h2 : (55296 ≤ u ∧ u ≤ 57343) ∨ (32 ≤ u ∧ u ≤ 126)) : sc b 0 (u :: rest) j = .error (b + 16 * j / 6) := by
  by_cases hh : 55296 ≤ u ∧ u ≤ 56319
  · rw [sc_high hh.1 hh.2]
    cases rest with
    | nil => rw [sc, if_pos (by lia), Nat.add_sub_cancel]
    | cons v r =>
      have h1 : ¬ (55296 ≤ u ∧ u ≤ 56319 ∧ 56320 ≤ v ∧ v ≤ 57343) := h1
      rw [sc_lone (by lia) (fun q => h1 ⟨hh.1, hh.2, q⟩), Nat.add_sub_cancel]
  · rcases h2 with h2 | h2
    · rw [sc_half (by lia) h2.2]
    · rw [sc_plain h2.1 h2.2]
theorem sc_law_pair {b j : Nat} {u : Int} {rest : List Int} (h1 : 55296 ≤ u ∧ u ≤ 56319 ∧ 56320 ≤ rest.headD 0 ∧ rest.headD 0 ≤ 57343) :
    rest ≠ [] ∧ sc b 0 (u :: rest) j = pre [(65536 + (u - 55296) * 1024 + rest.headD 0 - 56320).toNat] (sc b 0 (rest.drop 1) (j + 2)) := by
  cases rest with
  | nil => exact absurd h1.2.2.1 (by decide)
  | cons v r =>
    have h1 : 55296 ≤ u ∧ u ≤ 56319 ∧ 56320 ≤ v ∧ v ≤ 57343 := h1
    exact ⟨List.cons_ne_nil _ _, by rw [sc_high h1.1 h1.2.1, sc_pair (by lia) h1.2.2.1 h1.2.2.2]; rfl⟩
theorem lr_split {us : List Int} {j : Nat} (hj : j < us.length) : us.drop j = us.getD (j : Int).toNat 0 :: us.drop (j + 1) ∧ us.getD ((j : Int) + 1).toNat 0 = (us.drop (j + 1)).headD 0 := by
  refine ⟨?_, ?_⟩
  · show us.drop j = us.getD j 0 :: us.drop (j + 1)
    rw [List.drop_eq_getElem_cons hj]; simp [hj]
  · show us.getD (j + 1) 0 = _
    rw [List.headD_eq_head?_getD, List.head?_drop]; rfl
theorem lr_zero {us : List Int} {j : Nat} (q : us.length ≤ j + 1) : us.getD ((j : Int) + 1).toNat 0 = 0 := by
  show us.getD (j + 1) 0 = 0
  rw [List.getD_eq_getElem?_getD, List.getElem?_eq_none q]; rfl
theorem lr_pair {us : List Int} {b j : Nat} {ds : List Nat} {R : Rdg} (hj : j < us.length) (hp : pre ds (sc b 0 (us.drop j) j) = R)
    (h : 55296 ≤ us.getD (j : Int).toNat 0 ∧ us.getD (j : Int).toNat 0 ≤ 56319 ∧ 56320 ≤ us.getD ((j : Int) + 1).toNat 0 ∧ us.getD ((j : Int) + 1).toNat 0 ≤ 57343) :
    j + 2 ≤ us.length ∧ pre (ds ++ [(65536 + (us.getD (j : Int).toNat 0 - 55296) * 1024 + us.getD ((j : Int) + 1).toNat 0 - 56320).toNat]) (sc b 0 (us.drop (j + 2)) (j + 2)) = R := by
  obtain ⟨e1, e2⟩ := lr_split hj
  rw [e1] at hp; rw [e2] at h ⊢
  obtain ⟨q1, q2⟩ := sc_law_pair h (b := b) (j := j)
  have := List.length_pos_iff.mpr q1
  rw [List.length_drop] at this
  rw [q2, pre_pre, List.drop_drop] at hp
  exact ⟨by lia, hp⟩
theorem lr_bad {us : List Int} {b j : Nat} {ds : List Nat} {R : Rdg} (hj : j < us.length) (hp : pre ds (sc b 0 (us.drop j) j) = R)
    (h1 : ¬ (55296 ≤ us.getD (j : Int).toNat 0 ∧ us.getD (j : Int).toNat 0 ≤ 56319 ∧ 56320 ≤ us.getD ((j : Int) + 1).toNat 0 ∧ us.getD ((j : Int) + 1).toNat 0 ≤ 57343))
    (h2 : (55296 ≤ us.getD (j : Int).toNat 0 ∧ us.getD (j : Int).toNat 0 ≤ 57343) ∨ (32 ≤ us.getD (j : Int).toNat 0 ∧ us.getD (j : Int).toNat 0 ≤ 126)) : R = .error (b + 16 * j / 6) := by
  obtain ⟨e1, e2⟩ := lr_split hj
  rw [e1] at hp; rw [e2] at h1
  rw [sc_law_bad h1 h2] at hp
  exact hp.symm
theorem lr_one {us : List Int} {b j : Nat} {ds : List Nat} {R : Rdg} (hj : j < us.length) (hp : pre ds (sc b 0 (us.drop j) j) = R)
    (h : ¬ ((55296 ≤ us.getD (j : Int).toNat 0 ∧ us.getD (j : Int).toNat 0 ≤ 57343) ∨ (32 ≤ us.getD (j : Int).toNat 0 ∧ us.getD (j : Int).toNat 0 ≤ 126))) :
    pre (ds ++ [(us.getD (j : Int).toNat 0).toNat]) (sc b 0 (us.drop (j + 1)) (j + 1)) = R := by
  rw [(lr_split hj).1, sc_one (fun q => h (.inl q)) (fun q => h (.inr q)), pre_pre] at hp
  exact hp
noncomputable def IntIs (x : Int) (s : Shared) (v : Value) (s' : Shared) : Prop := ∃ t tk, v = .int x t ∧ s' = { s with toks := tk }
theorem IfExp_cut {M : Model} {A : Around} {E : Value → Shared → Prop} {s : Shared} {env : Env} {test body orelse : Expr} {pos : Pos} {Q : Value → Shared → Prop} (x : Int)
    (h : wpAny M A (isTrue test env (eval test env)) (fun b s₁ => if b then wpAny M A (eval body env) (IntIs x s) E s₁ else wpAny M A (eval orelse env) (IntIs x s) E s₁) E s) (hq : ∀ t tk, Q (.int x t) { s with toks := tk }) :
    wpAny M A (eval (.IfExp test body orelse pos) env) Q E s := by
  refine wpAny_mono (Q := IntIs x s) (E := E) (wpAny_IfExp h) (fun v s' z => ?_) fun _ _ z => z
  obtain ⟨t, tk, rfl, rfl⟩ := z
  exact hq t tk
local macro_rules | `(tactic| walk_at "eval IfExp") => `(tactic| (k_here; (with_reducible show wpAny _ _ (eval _ _) _ _ _); refine halt ?_))
noncomputable def LRP (R : Rdg) (b : Nat) (us : List Int) (c : List Nat × Tok × Nat × Tok) : Prop := pre c.1 (sc b 0 (us.drop c.2.2.1) c.2.2.1) = R ∧ c.2.2.1 ≤ us.length ∧ c.1.length ≤ c.2.2.1
theorem lrun_end {R : Rdg} {b : Nat} {us : List Int} {p1 p2 : Addr × Obj} {h₀ : Heap} {L : Addr} {news : List (Addr × Obj)} {stored : List Str} {m₀ m' : Str → Option Value} {s₁ : Shared} {h' : Heap} {tk : Nat} {ds' : List Nat} {td tj : Tok} {j' : Nat} {c : List Nat × Tok × Nat × Tok}
    (F : Fr h₀ L h' m') (N : News h₀ L h' news) (hn1 : p1 ∈ news) (hn2 : p2 ∈ news) (hk1 : m' (Str.ofString "found") = some (.str ⟨ds'.toArray⟩ td)) (hk2 : m' (Str.ofString "step") = some (.int (j' : Nat) tj)) (hr : ∀ z, z ≠ Str.ofString "found" → z ≠ Str.ofString "step" → stored.contains z = false → m' z = m₀ z)
    (h1 : pre ds' (sc b 0 (us.drop j') j') = R) (h2 : j' ≤ us.length) (h3 : ds'.length ≤ j') (hm : c.2.2.1 < j') (hc : c.2.2.1 < us.length) :
    KswEnd h₀ L s₁ (fun _ : List Nat × Tok × Nat × Tok => [p1, p2]) (fun c => [(Str.ofString "found", .str ⟨c.1.toArray⟩ c.2.1), (Str.ofString "step", .int c.2.2.1 c.2.2.2)]) (fun _ => True) stored m₀ (LRP R b us) (fun c => us.length - c.2.2.1) c { s₁ with heap := h', toks := tk } :=
  ksw_end (ds', td, j', tj) F N (fun p hp => by
      rcases List.mem_cons.mp hp with rfl | hp
      · exact hn1
      · cases List.mem_singleton.mp hp; exact hn2) trivial (fun p hp => by
      rcases List.mem_cons.mp hp with rfl | hp
      · exact hk1
      · cases List.mem_singleton.mp hp; exact hk2) (fun z hz2 hz3 => hr z (hz2 _ (.head _)) (hz2 _ (.tail _ (.head _))) hz3) ⟨h1, h2, h3⟩ (by exact Nat.sub_lt_sub_left hc hm)
theorem str_snoc (ds : List Nat) (x : Nat) : (⟨ds.toArray⟩ : PySem.Str) ++ (⟨#[x]⟩ : PySem.Str) = ⟨(ds ++ [x]).toArray⟩ := by
  show (⟨ds.toArray ++ #[x]⟩ : PySem.Str) = _
  simp
section
variable {prog p : Program} {lz : List Str} {w : World} {mean : ExcName → Option Value} {mg mb : Str → Option Value} {dp un : Nat} {gd : Option (List Code)} {base : Heap} {outer : List Env} {n : Nat}
  {Q E : Value → Shared → Prop} {s : Shared}
set_option maxHeartbeats 2000000 in
theorem ct_lrun {cs ns : List Nat} {b : Nat} {t t1 : Tok} (S : Sit p lz w mean mg mb dp un gd base outer (n + 2) s.heap)
  (hcs : cs = ns.map fun j => (sgn.getD j 0).toNat) (hns : ∀ j ∈ ns, j < 64) (hk : cs.length ≤ 400) (hb : b ≤ 100000)
  (hbad : ∀ k : Nat, shR ns b = .error k → ∀ T u h' tk', s.heap.StaysIn h' → h'.get? T = some { cls := .type "tuple", data := .seq [.none, .int k u].toArray } → s.heap.get? T = none → Q (.ref T) { s with heap := h', toks := tk' })
  (hok : ∀ ds : List Nat, shR ns b = .ok ds → ∀ T t u h' tk', s.heap.StaysIn h' → h'.get? T = some { cls := .type "tuple", data := .seq [.str ⟨ds.toArray⟩ t, .int b u].toArray } → s.heap.get? T = none → Q (.ref T) { s with heap := h', toks := tk' }) :
  wpAny (model prog w) (ar dp un gd outer) (call (.ref 187) [.str ⟨cs.toArray⟩ t, .int b t1]) Q E s := by
  k_dflt refine' enterS (binds := [(Str.ofString "run", .str ⟨cs.toArray⟩ t), (Str.ofString "begin", .int b t1)]) S ?k6 ?k7 ?k9 ?kB ?c2 ?c3 ?c4 ?c5 ?_
  walk_at "enter_s"
  rw [shR_uR] at hbad hok
  k_steps
  (rename Fr _ _ _ _ => F5); (rename News _ _ _ _ => N5)
  refine ct_lunits (n := n) (Sit.use B1 F5 X1 T1 (by walk_at "sitn") (by walk_at "sitn")) hcs hns hk hb ?_ ?_
  · intro k hu T u h6 tk6 k6 e6 f6
    have F6 := fr_stays F5 k6
    have N6 := news_add F5 N5 k6 e6 f6
    have hbad := hbad k (by rw [hu])
    clear hok
    k_steps
    (rename Fr _ _ _ _ => F7); (rename News _ _ _ _ => N7)
    exact hbad _ _ _ _ (Fr.keep F7) (N7 _ (.head _)).1 (N7 _ (.head _)).2.2
  · intro us hu T u D ys e h6 tk6 k6 e6 f6 e7 f7 i7
    have F6 := fr_stays F5 k6
    have N6 := news_two F5 N5 k6 e6 f6 e7 f7
    rw [hu] at hbad hok
    dsimp only at hbad hok
    have hil := i7.length
    have hul := uR_ok hu
    have hcn : cs.length = ns.length := by rw [hcs, List.length_map]
    have hln : us.length ≤ 150 := by lia
    clear hu
    k_steps
    (rename Fr _ _ _ _ => F8); (rename News _ _ _ _ => N8)
    generalize hR : sc b 0 us 0 = R at hbad hok
    refine' unhalt (ksw_while (σ := List Nat × Tok × Nat × Tok) (fun _ => [(T, _), (D, _)]) (fun c => [(Str.ofString "found", .str ⟨c.1.toArray⟩ c.2.1), (Str.ofString "step", .int c.2.2.1 c.2.2.2)]) (fun _ => True) [Str.ofString "unit", Str.ofString "place", Str.ofString "after"] (LRP R b us) (fun c => us.length - c.2.2.1) ([], ?tk0, 0, ?tk1) F8 N8 trivial ?hk0 ⟨(pre_nil _).trans hR, Nat.zero_le _, Nat.zero_le _⟩ ?_)
    case hk0 =>
      intro p hp
      rcases List.mem_cons.mp hp with rfl | hp
      · with_unfolding_all rfl
      · cases List.mem_singleton.mp hp; rfl
    · rintro ⟨ds0, td, j, tj⟩ v h tk _ ⟨hp1, hp2, hp3⟩ F N
      dsimp only at hp1 hp2 hp3 F N
      clear F8 N8
      have hl0 := str_len ds0
      by_cases hj : j < us.length
      · have hu0 := getD_bound (l := us) (B := 65536) (by decide) hul.2 (j : Int).toNat
        have hu1 := getD_bound (l := us) (B := 65536) (by decide) hul.2 ((j : Int) + 1).toNat
        k_steps
        refine unhalt (IfExp_cut (us.getD ((j : Int) + 1).toNat 0) ?_ fun t8 tk8 => ?_)
        · k_steps
          · exact ⟨_, _, rfl, rfl⟩
          · exact ⟨_, _, by rw [lr_zero (by lia)], rfl⟩
        k_steps
        · obtain ⟨z1, z2⟩ := lr_pair hj hp1 (by lia)
          exact lrun_end (j' := j + 2) (by assumption) (by assumption) (by k_mem) (by k_mem) (by rw [← str_snoc]; with_unfolding_all rfl) (by with_unfolding_all rfl) (by walk_at "hrs") z2 z1 (by simp; lia) (by show j < j + 2; lia) hj
        · have z1 := lr_bad hj hp1 (by lia) (by lia)
          (rename Fr _ _ _ _ => F7); (rename News _ _ _ _ => N7)
          have z := (N7 _ (.head _)).1
          rw [show (b : Int) + (16 * (j : Int)).fdiv 6 = ((b + 16 * j / 6 : Nat) : Int) by rw [fd6]; lia] at z
          exact hbad _ z1 _ _ _ _ (Fr.keep F7) z (N7 _ (.head _)).2.2
        · have z1 := lr_one hj hp1 (by lia)
          exact lrun_end (j' := j + 1) (by assumption) (by assumption) (by k_mem) (by k_mem) (by rw [← str_snoc]; with_unfolding_all rfl) (by with_unfolding_all rfl) (by walk_at "hrs") z1 hj (by simp; lia) (by show j < j + 1; lia) hj
      · rw [List.drop_of_length_le (by lia), sc, if_neg (by decide)] at hp1
        have hds : R = .ok ds0 := by rw [← hp1]; exact congrArg Except.ok (List.append_nil _)
        k_steps
        (rename Fr _ _ _ _ => F7); (rename News _ _ _ _ => N7)
        exact hok _ hds _ _ _ _ _ (Fr.keep F7) (N7 _ (.head _)).1 (N7 _ (.head _)).2.2
end

/-! texts: a sign of one, a slice of one, a sign among the signs -/
theorem item_at {cs : List Nat} {i : Nat} (h : i < cs.length) : Txt.item ⟨cs.toArray⟩ (i : Int) = ⟨#[cs[i]]⟩ := congrArg (fun c => (⟨#[c]⟩ : PySem.Str)) (char_at rfl h)
theorem slice_one {cs : List Nat} {k : Nat} {a b : Int} (ha : a = (k : Int)) (hb : b = (k : Int) + 1) (h : k < cs.length) : Txt.slice ⟨cs.toArray⟩ (some a) (some b) = ⟨#[cs[k]]⟩ := by
  have hl := str_len cs
  have e := slice_closesL (x := ⟨cs.toArray⟩) (i := a) (j := b) (by lia) (by lia) (by lia)
  rw [beq_iff_eq] at e
  rw [e]
  have e1 : a.toNat = k := by lia
  have e2 : (b - a).toNat = 1 := by lia
  rw [e1, e2]
  show (⟨((cs.drop k).take 1).toArray⟩ : PySem.Str) = _
  rw [List.drop_eq_getElem_cons h]
  rfl
theorem slice_none {cs : List Nat} {k : Nat} {a b : Int} (ha : a = (k : Int)) (hb : b = (k : Int) + 1) (h : cs.length ≤ k) : Txt.slice ⟨cs.toArray⟩ (some a) (some b) = ⟨#[]⟩ := by
  have hl := str_len cs
  have e : Builtin.Str.strSliceIndices (some a) (some b) 1 (⟨cs.toArray⟩ : PySem.Str).length = [] := by
    unfold Builtin.Str.strSliceIndices sliceRange
    simp only [show ((1 : Int) > 0) by decide, if_true]
    rw [if_neg (show ¬ a < 0 by lia), if_neg (show ¬ b < 0 by lia), if_neg (by lia)]
    rfl
  unfold Txt.slice
  rw [e]
  split
  · rename_i q
    simp only [beq_self_eq_true, Bool.true_and, List.length_nil, beq_iff_eq] at q
    rw [hl] at q
    have : cs = [] := List.eq_nil_of_length_eq_zero q.symm
    rw [this]
  · rfl
theorem signs_list : (Str.ofString "ABCDEFGHIJKLMNOPQRSTUVWXYZabcdefghijklmnopqrstuvwxyz0123456789+,").cps.toList = sgn.map Int.toNat := by decide +kernel
theorem among (c : Nat) : (Builtin.Str.occurrences (Str.ofString "ABCDEFGHIJKLMNOPQRSTUVWXYZabcdefghijklmnopqrstuvwxyz0123456789+,") ⟨#[c]⟩ 0 (Str.ofString "ABCDEFGHIJKLMNOPQRSTUVWXYZabcdefghijklmnopqrstuvwxyz0123456789+,").length 1).isEmpty = !(sgn.contains (c : Int)) := by
  rw [empty_one, signs_list]
  congr 1
  rw [Bool.eq_iff_iff, decide_eq_true_eq, List.contains_iff_mem, List.mem_map]
  constructor
  · rintro ⟨x, hx, rfl⟩
    have := sgn_range x hx
    rw [Int.toNat_of_nonneg (by lia)]; exact hx
  · exact fun h => ⟨_, h, rfl⟩
theorem ofs_amp : Str.ofString "&" = ⟨#[38]⟩ := by decide +kernel
theorem ofs_hyphen : Str.ofString "-" = ⟨#[45]⟩ := by decide +kernel
theorem ofs_empty : Str.ofString "" = ⟨#[]⟩ := by decide +kernel
theorem one_is {c d : Nat} : ((⟨#[c]⟩ : PySem.Str) != ⟨#[d]⟩) = decide (c ≠ d) := by
  by_cases q : c = d
  · rw [q]; simp
  · have : (⟨#[c]⟩ : PySem.Str) ≠ ⟨#[d]⟩ := fun z => q (by injection z with z; simpa using z)
    rw [decide_eq_true q]; simpa using this
theorem slice_is {cs : List Nat} {k d : Nat} {a b : Int} (ha : a = (k : Int)) (hb : b = (k : Int) + 1) : (Txt.slice ⟨cs.toArray⟩ (some a) (some b) != ⟨#[d]⟩) = decide (cs[k]? ≠ some d) := by
  rcases Nat.lt_or_ge k cs.length with h | h
  · rw [slice_one ha hb h, one_is, List.getElem?_eq_getElem h]; simp
  · rw [slice_none ha hb h, List.getElem?_eq_none h]; rfl
theorem slice_full {cs : List Nat} {k : Nat} {a b : Int} (ha : a = (k : Int)) (hb : b = (k : Int) + 1) : (Txt.slice ⟨cs.toArray⟩ (some a) (some b) != ⟨#[]⟩) = decide (k < cs.length) := by
  rcases Nat.lt_or_ge k cs.length with h | h
  · rw [slice_one ha hb h, decide_eq_true h]; rfl
  · rw [slice_none ha hb h, decide_eq_false (Nat.not_lt.mpr h)]; rfl
theorem is_empty (xs : List Nat) : ((⟨xs.toArray⟩ : PySem.Str) == ⟨#[]⟩) = decide (xs.length = 0) := by
  cases xs with
  | nil => rfl
  | cons x r =>
    have : (⟨(x :: r).toArray⟩ : PySem.Str) ≠ ⟨#[]⟩ := fun z => by injection z with z; simp at z
    simpa using this
/-- a test's answer, the frame as it was -/
noncomputable def TestF (P : Prop) [Decidable P] (h₀ : Heap) (L : Addr) (m : Str → Option Value) (news : List (Addr × Obj)) (s : Shared) (b : Bool) (s' : Shared) : Prop := b = decide P ∧ ∃ h' tk, s' = { s with heap := h', toks := tk } ∧ Fr h₀ L h' m ∧ News h₀ L h' news
section
variable {P : Prop} [Decidable P] {h₀ h' : Heap} {L : Addr} {m : Str → Option Value} {news : List (Addr × Obj)} {s : Shared} {tk : Nat}
theorem TestF.yes (F : Fr h₀ L h' m) (N : News h₀ L h' news) (h : P) : TestF P h₀ L m news s true { s with heap := h', toks := tk } := ⟨(decide_eq_true h).symm, _, _, rfl, F, N⟩
theorem TestF.no (F : Fr h₀ L h' m) (N : News h₀ L h' news) (h : ¬ P) : TestF P h₀ L m news s false { s with heap := h', toks := tk } := ⟨(decide_eq_false h).symm, _, _, rfl, F, N⟩
theorem test_cut {M : Model} {A : Around} {E : Value → Shared → Prop} {t : Sem Bool} {K : Bool → Shared → Prop} (P : Prop) [Decidable P] (_F : Fr h₀ L s.heap m) (_N : News h₀ L s.heap news) (h : wpAny M A t (TestF P h₀ L m news s) E s)
    (h1 : P → ∀ h' tk, Fr h₀ L h' m → News h₀ L h' news → K true { s with heap := h', toks := tk }) (h2 : ¬ P → ∀ h' tk, Fr h₀ L h' m → News h₀ L h' news → K false { s with heap := h', toks := tk }) : wpAny M A t K E s := by
  refine wpAny_mono h (fun b s' z => ?_) fun _ _ z => z
  obtain ⟨rfl, h', tk, rfl, F, N⟩ := z
  by_cases q : P
  · rw [decide_eq_true q]; exact h1 q h' tk F N
  · rw [decide_eq_false q]; exact h2 q h' tk F N
end

section
variable {prog p : Program} {lz : List Str} {w : World} {mean : ExcName → Option Value} {mg mb : Str → Option Value} {dp un : Nat} {gd : Option (List Code)} {base : Heap} {outer : List Env} {n : Nat}
  {Q E : Value → Shared → Prop} {s : Shared}
noncomputable def RDP (R : Rdg) (os : List Int) (c : List Nat × Tok × Nat × Tok × Int × Tok) : Prop := pre c.1 (rd os c.2.2.1 c.2.2.2.2.1) = R ∧ c.2.2.1 ≤ os.length ∧ c.1.length ≤ c.2.2.1
theorem read_end {R : Rdg} {os : List Int} {h₀ : Heap} {L : Addr} {news : List (Addr × Obj)} {stored : List Str} {m₀ m' : Str → Option Value} {s₁ : Shared} {h' : Heap} {tk : Nat} {ds' : List Nat} {td ti tsh : Tok} {i' : Nat} {sh' : Int} {c : List Nat × Tok × Nat × Tok × Int × Tok}
    (F : Fr h₀ L h' m') (N : News h₀ L h' news) (hk1 : m' (Str.ofString "found") = some (.str ⟨ds'.toArray⟩ td)) (hk2 : m' (Str.ofString "at") = some (.int (i' : Nat) ti)) (hk3 : m' (Str.ofString "last") = some (.int sh' tsh))
    (hr : ∀ z, z ≠ Str.ofString "found" → z ≠ Str.ofString "at" → z ≠ Str.ofString "last" → stored.contains z = false → m' z = m₀ z) (h1 : pre ds' (rd os i' sh') = R) (h2 : i' ≤ os.length) (h3 : ds'.length ≤ i') (hm : c.2.2.1 < i') (hc : c.2.2.1 < os.length) :
    KswEnd h₀ L s₁ (fun _ : List Nat × Tok × Nat × Tok × Int × Tok => []) (fun c => [(Str.ofString "found", .str ⟨c.1.toArray⟩ c.2.1), (Str.ofString "at", .int c.2.2.1 c.2.2.2.1), (Str.ofString "last", .int c.2.2.2.2.1 c.2.2.2.2.2)]) (fun _ => True) stored m₀ (RDP R os) (fun c => os.length - c.2.2.1) c { s₁ with heap := h', toks := tk } :=
  ksw_end (ds', td, i', ti, sh', tsh) F N (fun p hp => nomatch hp) trivial (fun p hp => by
      rcases List.mem_cons.mp hp with rfl | hp
      · exact hk1
      · rcases List.mem_cons.mp hp with rfl | hp
        · exact hk2
        · cases List.mem_singleton.mp hp; exact hk3) (fun z hz2 hz3 => hr z (hz2 _ (.head _)) (hz2 _ (.tail _ (.head _))) (hz2 _ (.tail _ (.tail _ (.head _)))) hz3) ⟨h1, h2, h3⟩ (by exact Nat.sub_lt_sub_left hc hm)
theorem os_getD {cs : List Nat} {os : List Int} (hos : os = cs.map fun c : Nat => (c : Int)) {k : Nat} (h : k < cs.length) : os.getD k 0 = (cs[k] : Int) := by simp [hos, h]
theorem os_is {cs : List Nat} {os : List Int} (hos : os = cs.map fun c : Nat => (c : Int)) {k : Nat} : os[k]? = some 45 ↔ cs[k]? = some 45 := by
  rw [hos, List.getElem?_map]
  cases cs[k]? with
  | none => simp
  | some x => simp; lia
theorem str_app (a b : List Nat) : (⟨a.toArray⟩ : PySem.Str) ++ (⟨b.toArray⟩ : PySem.Str) = ⟨(a ++ b).toArray⟩ := by
  show (⟨a.toArray ++ b.toArray⟩ : PySem.Str) = _
  simp
theorem run_snoc {cs : List Nat} {i l : Nat} (h : i + l < cs.length) : (cs.drop i).take (l + 1) = (cs.drop i).take l ++ [cs[i + l]] := by
  rw [List.take_add_one, List.getElem?_drop, List.getElem?_eq_getElem h]; rfl
set_option maxHeartbeats 2000000 in
theorem ct_lread {cs : List Nat} {os : List Int} {t : Tok} (S : Sit p lz w mean mg mb dp un gd base outer (n + 3) s.heap)
  (hos : os = cs.map fun c : Nat => (c : Int)) (hk : cs.length ≤ 300)
  (hbad : ∀ k : Nat, rd os 0 (-1) = .error k → ∀ T u h' tk', s.heap.StaysIn h' → h'.get? T = some { cls := .type "tuple", data := .seq [.none, .int k u].toArray } → s.heap.get? T = none → Q (.ref T) { s with heap := h', toks := tk' })
  (hok : ∀ ds : List Nat, rd os 0 (-1) = .ok ds → ds.length ≤ os.length → ∀ T t u h' tk', s.heap.StaysIn h' → h'.get? T = some { cls := .type "tuple", data := .seq [.str ⟨ds.toArray⟩ t, .int (-1) u].toArray } → s.heap.get? T = none → Q (.ref T) { s with heap := h', toks := tk' }) :
  wpAny (model prog w) (ar dp un gd outer) (call (.ref 194) [.str ⟨cs.toArray⟩ t]) Q E s := by
  k_dflt refine' enterS (binds := [(Str.ofString "text", .str ⟨cs.toArray⟩ t)]) S ?k6 ?k7 ?k9 ?kB ?c2 ?c3 ?c4 ?c5 ?_
  walk_at "enter_s"
  have hol : os.length = cs.length := by rw [hos, List.length_map]
  k_steps
  (rename Fr _ _ _ _ => F8); (rename News _ _ _ _ => N8)
  generalize hR : rd os 0 (-1) = R at hbad hok
  refine' unhalt (ksw_while (σ := List Nat × Tok × Nat × Tok × Int × Tok) (fun _ => []) (fun c => [(Str.ofString "found", .str ⟨c.1.toArray⟩ c.2.1), (Str.ofString "at", .int c.2.2.1 c.2.2.2.1), (Str.ofString "last", .int c.2.2.2.2.1 c.2.2.2.2.2)]) (fun _ => True) [Str.ofString "run", Str.ofString "end", Str.ofString "more", Str.ofString "place"] (RDP R os) (fun c => os.length - c.2.2.1) ([], ?tk0, 0, ?tk1, -1, ?tk2) F8 (fun p hp => nomatch hp) trivial ?hk0 ⟨(pre_nil _).trans hR, Nat.zero_le _, Nat.zero_le _⟩ ?_)
  case hk0 =>
    intro p hp
    rcases List.mem_cons.mp hp with rfl | hp
    · with_unfolding_all rfl
    · rcases List.mem_cons.mp hp with rfl | hp
      · rfl
      · cases List.mem_singleton.mp hp; rfl
  · rintro ⟨ds0, td, i, ti, sh, tsh⟩ v h tk _ ⟨hp1, hp2, hp3⟩ F N
    dsimp only at hp1 hp2 hp3 F N
    clear F8 N8
    refine let_m F ?_; clear F; intro m9 F
    have hl0 := str_len ds0
    have hl := str_len cs
    by_cases hi : i < os.length
    · have hic : i < cs.length := by lia
      have hoi : os.getD i 0 = (cs[i] : Int) := by simp [hos, hic]
      have hit : Txt.item ⟨cs.toArray⟩ (i : Int) = ⟨#[cs[i]]⟩ := congrArg (fun c => (⟨#[c]⟩ : PySem.Str)) (char_at rfl hic)
      have hic2 : (((Txt.item ⟨cs.toArray⟩ (i : Int)).cps.getD 0 0 : Nat) : Int) = os.getD i 0 := by rw [hit, hoi]; rfl
      k_steps
      · rw [rd_raw hi (by lia)] at hp1
        (rename Fr _ _ _ _ => F7); (rename News _ _ _ _ => N7)
        exact hbad _ hp1.symm _ _ _ _ (Fr.keep F7) (N7 _ (.head _)).1 (N7 _ (.head _)).2.2
      · (rename (Txt.item _ _ != _) = true => c1); rw [hit, ofs_amp, one_is, decide_eq_true_eq] at c1
        rw [rd_plain hi (by lia) (by lia) (by lia), pre_pre] at hp1
        rw [hoi] at hp1
        exact read_end (ds' := ds0 ++ [cs[i]]) (i' := i + 1) (by assumption) (by assumption) (by rw [← str_snoc, ← hit]; with_unfolding_all rfl) (by with_unfolding_all rfl) (by with_unfolding_all rfl) (by walk_at "hrs") hp1 hi (by simp; lia) (by show i < i + 1; lia) hi
      · (rename (Txt.item _ _ != _) = false => c1); rw [hit, ofs_amp, one_is, decide_eq_false_iff_not, Decidable.not_not] at c1
        have hgd : os.getD i 0 = 38 := by rw [hoi, c1]; rfl
        (rename Fr _ _ _ _ => F9); (rename News _ _ _ _ => N9)
        refine' unhalt (ksw_while (σ := Nat × Tok) (fun _ => []) (fun c => [(Str.ofString "run", .str ⟨((cs.drop (i + 1)).take c.1).toArray⟩ c.2)]) (fun _ => True) [] (fun c => i + 1 + c.1 ≤ cs.length ∧ sEnd os (i + 1 + c.1) = sEnd os (i + 1)) (fun c => cs.length - c.1) (0, ?tk8) F9 (fun p hp => nomatch hp) trivial ?hk8 ⟨hic, rfl⟩ ?_)
        case hk8 => intro p hp; cases List.mem_singleton.mp hp; with_unfolding_all rfl
        rintro ⟨l, tr⟩ v9 h9 tk9 _ ⟨hq1, hq2⟩ F10 N10
        dsimp only at hq1 hq2 F10 N10
        clear F9 N9
        refine let_m F10 ?_; clear F10; intro m10 F10
        have hl62 : l < 2 ^ 62 := by omega
        have hrl : (⟨((cs.drop (i + 1)).take l).toArray⟩ : PySem.Str).length = l := by rw [str_len, List.length_take, List.length_drop]; lia
        refine test_cut (i + 1 + l < os.length ∧ sgn.contains (os.getD (i + 1 + l) 0) = true) F10 N10 ?_ (fun q h11 tk11 F11 N11 => ?_) (fun q h11 tk11 F11 N11 => ?_)
        · by_cases hlt : i + 1 + l < cs.length
          · have hit2 : Txt.item ⟨cs.toArray⟩ ((i : Int) + 1 + ((⟨((cs.drop (i + 1)).take l).toArray⟩ : PySem.Str).length : Int)) = ⟨#[cs[i + 1 + l]]⟩ := by rw [hrl]; exact item_at (i := i + 1 + l) hlt
            have hgl := os_getD hos hlt
            have ham := among cs[i + 1 + l]
            have hsf := slice_full (cs := cs) (k := i + 1 + l) (a := (i : Int) + 1 + ((⟨((cs.drop (i + 1)).take l).toArray⟩ : PySem.Str).length : Int)) (b := (i : Int) + 2 + ((⟨((cs.drop (i + 1)).take l).toArray⟩ : PySem.Str).length : Int)) (by lia) (by lia)
            rw [decide_eq_true hlt, ← ofs_empty] at hsf
            (show wpAny _ _ _ _ _ _); k_fold
            k_steps
            · (rename List.isEmpty _ = true => c2); rw [hit2, ham] at c2
              exact .no (by assumption) (by assumption) fun z => by rw [hgl] at z; rw [z.2] at c2; cases c2
            · (rename List.isEmpty _ = false => c2); rw [hit2, ham] at c2
              exact .yes (by assumption) (by assumption) ⟨by lia, by rw [hgl]; simpa using c2⟩
          · have hsf := slice_full (cs := cs) (k := i + 1 + l) (a := (i : Int) + 1 + ((⟨((cs.drop (i + 1)).take l).toArray⟩ : PySem.Str).length : Int)) (b := (i : Int) + 2 + ((⟨((cs.drop (i + 1)).take l).toArray⟩ : PySem.Str).length : Int)) (by lia) (by lia)
            rw [decide_eq_false hlt, ← ofs_empty] at hsf
            (show wpAny _ _ _ _ _ _); k_fold
            k_steps
            exact .no (by assumption) (by assumption) fun z => by lia
        · clear F10 N10
          have hlt : i + 1 + l < cs.length := by lia
          have hit2 : Txt.item ⟨cs.toArray⟩ ((i : Int) + 1 + ((⟨((cs.drop (i + 1)).take l).toArray⟩ : PySem.Str).length : Int)) = ⟨#[cs[i + 1 + l]]⟩ := by rw [hrl]; exact item_at (i := i + 1 + l) hlt
          have hst := sEnd_step (os := os) (b := i + 1 + l) q.1 (by have := q.2; rwa [List.getD_eq_getElem?_getD, List.getElem?_eq_getElem q.1] at this)
          k_steps
          (with_unfolding_all refine' ksw_end (l + 1, _) ?wF ?wN ?wn ?wf ?wk ?wr ?wp ?wm)
          case wF => assumption
          case wN => assumption
          case wn => exact fun p hp => nomatch hp
          case wf => trivial
          case wk => intro p hp; cases List.mem_singleton.mp hp; rw [run_snoc (i := i + 1) hlt, ← str_snoc, ← hit2]; with_unfolding_all rfl
          case wr => intro z hz2 _; have q9 : z ≠ Str.ofString "run" := hz2 _ (.head _); exact (if_neg q9).trans (if_neg q9)
          case wp => exact ⟨hlt, hst.symm.trans hq2⟩
          case wm => exact Nat.sub_lt_sub_left (Nat.lt_of_le_of_lt (Nat.le_add_left l (i + 1)) hlt) (Nat.lt_succ_self l)
        · clear F10 N10
          have hE : sEnd os (i + 1) = i + 1 + l := by
            rw [← hq2]
            rcases Nat.lt_or_ge (i + 1 + l) os.length with h1 | h1
            · exact sEnd_stop h1 (by
                have : ¬ sgn.contains (os.getD (i + 1 + l) 0) = true := fun z => q ⟨h1, z⟩
                rw [List.getD_eq_getElem?_getD, List.getElem?_eq_getElem h1] at this
                simpa using this)
            · exact sEnd_end h1
          have hsi := slice_is (cs := cs) (k := i + 1 + l) (d := 45) (a := (i : Int) + 1 + ((⟨((cs.drop (i + 1)).take l).toArray⟩ : PySem.Str).length : Int)) (b := (i : Int) + 1 + ((⟨((cs.drop (i + 1)).take l).toArray⟩ : PySem.Str).length : Int) + 1) (by lia) (by lia)
          rw [← ofs_hyphen] at hsi
          have hem := is_empty ((cs.drop (i + 1)).take l)
          rw [← ofs_empty, ← str_len, hrl] at hem
          have hos2 : os[sEnd os (i + 1)]? = some 45 ↔ cs[i + 1 + l]? = some 45 := by rw [hE]; exact os_is hos
          k_steps
          · (rename (Txt.slice _ _ _ != _) = true => c2); rw [hsi, decide_eq_true_eq] at c2
            rw [rd_open hi hgd (fun z => c2 (hos2.mp z))] at hp1
            (rename Fr _ _ _ _ => F7); (rename News _ _ _ _ => N7)
            have z := (N7 _ (.head _)).1
            rw [show (i : Int) + 1 + ((⟨((cs.drop (i + 1)).take l).toArray⟩ : PySem.Str).length : Int) = ((sEnd os (i + 1) : Nat) : Int) by lia] at z
            exact hbad _ hp1.symm _ _ _ _ (Fr.keep F7) z (N7 _ (.head _)).2.2
          all_goals ((rename (Txt.slice _ _ _ != _) = false => c2); rw [hsi, decide_eq_false_iff_not, Decidable.not_not] at c2)
          all_goals have h45 := hos2.mpr c2
          all_goals have hlt : i + 1 + l < cs.length := (List.getElem?_eq_some_iff.mp c2).1
          · (rename ((_ : PySem.Str) == _) = true => c3); rw [hem, decide_eq_true_eq] at c3
            rw [rd_amp hi hgd h45 (by lia), pre_pre] at hp1
            exact read_end (ds' := ds0 ++ [38]) (i' := i + 2) (by assumption) (by assumption) (by rw [← str_snoc, ← ofs_amp]; with_unfolding_all rfl) (by rw [show ((i + 2 : Nat) : Int) = (i : Int) + 1 + ((⟨((cs.drop (i + 1)).take l).toArray⟩ : PySem.Str).length : Int) + 1 by lia]; with_unfolding_all rfl) (by with_unfolding_all rfl) (by walk_at "hrs") hp1 (by lia) (by simp; lia) (by show i < i + 2; lia) hi
          all_goals ((rename ((_ : PySem.Str) == _) = false => c3); rw [hem, decide_eq_false_iff_not] at c3)
          · rw [rd_need hi hgd h45 (by lia) (by assumption)] at hp1
            (rename Fr _ _ _ _ => F7); (rename News _ _ _ _ => N7)
            exact hbad _ hp1.symm _ _ _ _ (Fr.keep F7) (N7 _ (.head _)).1 (N7 _ (.head _)).2.2
          · (rename Fr _ _ _ _ => F12); (rename News _ _ _ _ => N12)
            have hsg := nsOf_signs os (i + 1)
            have hrun : (cs.drop (i + 1)).take l = (nsOf os (i + 1) (sEnd os (i + 1))).map fun j => (sgn.getD j 0).toNat := by
              have e := congrArg (List.map Int.toNat) hsg.1
              rw [hE, hos, ← List.map_drop, ← List.map_take, List.map_map, List.map_map, Nat.add_sub_cancel_left] at e
              rw [hE, hos]
              refine Eq.trans ?_ e
              exact (List.map_id' _).symm
            have hnl := congrArg List.length hrun
            rw [List.length_map, List.length_take, List.length_drop] at hnl
            refine ct_lrun (n := n) (b := i + 1) (Sit.use B1 F12 X1 T1 (by walk_at "sitn") (by walk_at "sitn")) hrun hsg.2 (by simp; lia) (by lia) ?_ ?_
            · intro k hkk T u h13 tk13 k13 e13 f13
              have F13 := fr_stays F12 k13
              have N13 := news_add F12 N12 k13 e13 f13
              rw [rd_bad hi hgd h45 (by lia) (by assumption) hkk] at hp1
              k_steps
              (rename Fr _ _ _ _ => F7); (rename News _ _ _ _ => N7)
              exact hbad _ hp1.symm _ _ _ _ (Fr.keep F7) (N7 _ (.head _)).1 (N7 _ (.head _)).2.2
            · intro ds hds T td13 u h13 tk13 k13 e13 f13
              have F13 := fr_stays F12 k13
              have N13 := news_add F12 N12 k13 e13 f13
              have hdl := shR_len hds
              have hl13 := str_len ds
              rw [rd_shift hi hgd h45 (by lia) (by assumption) hds, pre_pre] at hp1
              have e7 : ((sEnd os (i + 1) + 1 : Nat) : Int) = (i : Int) + 1 + ((⟨((cs.drop (i + 1)).take l).toArray⟩ : PySem.Str).length : Int) + 1 := by lia
              k_steps
              exact read_end (ds' := ds0 ++ ds) (i' := sEnd os (i + 1) + 1) (by assumption) (by assumption) (by rw [← str_app]; with_unfolding_all rfl) (by rw [e7]; with_unfolding_all rfl) (by with_unfolding_all rfl) (by walk_at "hrs") (by rw [← e7]; exact hp1) (by lia) (by simp; lia) (by show i < sEnd os (i + 1) + 1; lia) hi
    · rw [rd_done (by lia)] at hp1
      have hds : R = .ok ds0 := by rw [← hp1]; exact congrArg Except.ok (List.append_nil _)
      k_steps
      (rename Fr _ _ _ _ => F7); (rename News _ _ _ _ => N7)
      exact hok _ hds (by lia) _ _ _ _ _ (Fr.keep F7) (N7 _ (.head _)).1 (N7 _ (.head _)).2.2
end

section
variable {M : Model} {A : Around} {E : Value → Shared → Prop} {s : Shared} {env : Env}
theorem on_And2 {x y : Expr} {pos : Pos} {Q : Value → Shared → Prop}
    (h : wpAny M A (eval x env) (fun v s₁ => wpAny M A (truthy v) (fun t s₂ => if t = true then wpOn M A (eval y env) Q E s₂ else Q v s₂) E s₁) E s) : wpOn M A (eval (.BoolOp .And [x, y] pos) env) Q E s := by
  show wpOn M A (do
    let v ← eval x env
    standAt pos
    let t ← holding [v] (truthy v)
    match BoolOp.And, t with
    | .And, false | .Or, true => pure v
    | _, _ => boolOp pos .And [eval y env]) Q E s
  refine on_then (wpAny_mono h (fun v s₁ h₁ => on_bind (on_standAt (on_then (wpAny_holding (wpAny_mono h₁ (fun t s₂ h₂ => ?_) fun _ _ x => x))))) fun _ _ x => x)
  cases t with
  | false => exact on_pure h₂
  | true => exact h₂
theorem on_Compare1 {l op r pos} {Q : Value → Shared → Prop} (h : wpOn M A (eval l env) (fun a s₁ => wpAny M A (eval r env) (fun b s₂ => wpAny M A (compareOp op a b) Q E s₂) E s₁) E s)
    (hm : behindInMarks op r = false := by with_unfolding_all rfl) : wpOn M A (eval (.Compare l [op] [r] pos) env) Q E s := fun Γ p hΓ q => by
  simp only [eval_Compare1, markedBehindIn_of_false hm, Sem.wp_bind', Sem.wp_holding, Sem.wp_cmd_standAt, Sem.wp_operate]
  exact Sem.wp_mono M Γ _ (fun a p₁ s₁ h₁ => Sem.wp_mono M Γ _ (fun b _ s₂ h₂ => h₂ Γ _ hΓ) (fun _ _ _ h' => h') _ _ (h₁ Γ p₁ hΓ)) (fun _ _ _ h' => h') _ _ (h Γ p hΓ q)
end

/-! what was read is written as it stood -/
noncomputable def octs (u : Int) : List Int := [u / 256, u % 256]
theorem octs_in {u k : Int} (hu : 0 ≤ u ∧ u < 65536) (hk : k ∈ octs u) : 0 ≤ k ∧ k < 256 := by
  rcases List.mem_cons.mp hk with rfl | hk
  · exact ⟨Int.ediv_nonneg hu.1 (by decide), Int.ediv_lt_of_lt_mul (by decide) hu.2⟩
  · rw [List.mem_singleton.mp hk]
    exact ⟨Int.emod_nonneg _ (by decide), Int.emod_lt_of_pos _ (by decide)⟩
theorem pair_code {hi u : Int} (h : 55296 ≤ hi ∧ hi ≤ 56319) (h1 : 56320 ≤ u ∧ u ≤ 57343) : ∃ x : Nat, (65536 + (hi - 55296) * 1024 + u - 56320).toNat = x ∧ (65535 < (x : Int)) ∧ hiU x = hi ∧ loU x = u ∧ x < 1114112 := by
  refine ⟨_, rfl, ?_⟩
  have e : ((65536 + (hi - 55296) * 1024 + u - 56320).toNat : Int) = 65536 + (hi - 55296) * 1024 + u - 56320 := Int.toNat_of_nonneg (by lia)
  unfold hiU loU
  generalize (65536 + (hi - 55296) * 1024 + u - 56320).toNat = x at *
  refine ⟨by lia, by lia, by lia, by lia⟩
theorem run_code {x : Nat} (h : 65535 < (x : Int)) (h2 : x < 1114112) : RunCode x := ⟨(plainN_false _).mpr (by lia), by lia, by lia⟩
theorem run_one {u : Int} (hu : 0 ≤ u ∧ u < 65536) (h2 : ¬ (55296 ≤ u ∧ u ≤ 57343)) (h3 : ¬ (32 ≤ u ∧ u ≤ 126)) : RunCode u.toNat := ⟨(plainN_false _).mpr (by lia), by lia, by lia⟩
noncomputable def pend (hi : Int) : List Int := if 0 < hi then octs hi else []
theorem sc_u16 {b : Nat} : ∀ (us : List Int) (hi : Int) (j : Nat) (ds : List Nat), (hi = 0 ∨ (55296 ≤ hi ∧ hi ≤ 56319)) → (∀ u ∈ us, 0 ≤ u ∧ u < 65536) → sc b hi us j = .ok ds → u16 ds = pend hi ++ us.flatMap octs ∧ ∀ c ∈ ds, RunCode c
  | [], hi, j, ds, hh, hu, h => by
    rw [sc] at h
    split at h
    · cases h
    · rename_i q
      cases h
      exact ⟨by unfold pend; rw [if_neg q]; rfl, fun _ h => nomatch h⟩
  | u :: us, hi, j, ds, hh, hu, h => by
    have ih := fun hi j ds q => sc_u16 (b := b) us hi j ds q fun u h => hu u (.tail _ h)
    have hu0 := hu u (.head _)
    have hpre : ∀ (x : Nat) (r : Rdg), pre [x] r = .ok ds → ∃ r', r = .ok r' ∧ ds = x :: r' := fun x r q => by
      cases r with
      | error k => cases q
      | ok r => cases q; exact ⟨r, rfl, rfl⟩
    rw [sc] at h
    split at h
    · rename_i h0
      have hh : 55296 ≤ hi ∧ hi ≤ 56319 := hh.resolve_left (Int.ne_of_gt h0)
      split at h
      · rename_i h1
        obtain ⟨r, hr, rfl⟩ := hpre _ _ h
        obtain ⟨g1, g2⟩ := ih 0 _ _ (.inl rfl) hr
        obtain ⟨x, hx, k1, k2, k3, k4⟩ := pair_code hh h1
        rw [hx]
        refine ⟨?_, fun c hc => ?_⟩
        · rw [u16_cons, g1, List.flatMap_cons]
          unfold u16one pend octs
          rw [if_pos k1, if_pos h0, if_neg (by decide), k2, k3]; rfl
        · rcases List.mem_cons.mp hc with rfl | hc
          · exact run_code k1 k4
          · exact g2 c hc
      · cases h
    · rename_i h0
      have hp : pend hi = [] := by unfold pend; rw [if_neg h0]
      rw [hp, List.nil_append, List.flatMap_cons]
      split at h
      · rename_i h1
        obtain ⟨g1, g2⟩ := ih u _ _ (.inr h1) h
        refine ⟨?_, g2⟩
        rw [g1]; unfold pend; rw [if_pos (Int.lt_of_lt_of_le (by decide) h1.1)]
      · split at h
        · cases h
        · split at h
          · cases h
          · rename_i h1 h2 h3
            obtain ⟨r, hr, rfl⟩ := hpre _ _ h
            obtain ⟨g1, g2⟩ := ih 0 _ _ (.inl rfl) hr
            have hx : (u.toNat : Int) = u := Int.toNat_of_nonneg hu0.1
            refine ⟨?_, fun c hc => ?_⟩
            · rw [u16_cons, g1]
              unfold u16one pend octs
              rw [hx, if_neg (Int.not_lt.mpr (show u ≤ 65535 from Int.le_of_lt_add_one hu0.2)), if_neg (by decide)]; rfl
            · rcases List.mem_cons.mp hc with rfl | hc
              · exact run_one hu0 h2 h3
              · exact g2 c hc
theorem octs_len : ∀ us : List Int, (us.flatMap octs).length = 2 * us.length
  | [] => rfl
  | u :: us => by rw [List.flatMap_cons, List.length_append, octs_len us]; simp [octs]; lia
theorem num_octs : ∀ us : List Int, num 256 (us.flatMap octs) = num 65536 us
  | [] => rfl
  | u :: us => by
    have e : num 256 (octs u) = u := by unfold num octs; simp only [List.foldl_cons, List.foldl_nil]; lia
    rw [List.flatMap_cons, num_app, e, num_octs us, num_cons, octs_len, Int.pow_mul]; rfl
theorem even_split {L : Nat} (h1 : L % 4 ≠ 1) (h3 : ¬ 6 * L / 8 % 2 = 1) : ∃ m s, 6 * L = 16 * m + s ∧ 6 * L / 16 = m ∧ 6 * L % 8 = s ∧ (8 * (2 * m) + 5) / 6 = L := by
  obtain ⟨q, r, hL, hr⟩ : ∃ q r, L = 8 * q + r ∧ r < 8 := ⟨L / 8, L % 8, (Nat.div_add_mod _ 8).symm, Nat.mod_lt _ (by decide)⟩
  have k1 : L % 4 = r % 4 := by rw [hL, show 8 * q = 4 * (2 * q) from Nat.mul_assoc 4 2 q, Nat.mul_add_mod]
  have k2 : 6 * L / 8 % 2 = 6 * r / 8 % 2 := by
    rw [hL, Nat.mul_add, Nat.mul_left_comm, Nat.mul_add_div (by decide), show 6 * q = 2 * (3 * q) from Nat.mul_assoc 2 3 q, Nat.mul_add_mod]
  rw [k1] at h1; rw [k2] at h3
  have key : ∀ r < 8, r % 4 ≠ 1 → ¬ 6 * r / 8 % 2 = 1 → r = 0 ∨ r = 3 ∨ r = 6 := by decide
  have hr := key r hr h1 h3
  clear key k1 k2 h1 h3
  subst hL
  rcases hr with rfl | rfl | rfl
  · exact ⟨3 * q, 0, by lia, by lia, by lia, by lia⟩
  · exact ⟨3 * q + 1, 2, by lia, by lia, by lia, by lia⟩
  · exact ⟨3 * q + 2, 4, by lia, by lia, by lia, by lia⟩
/-- a shift that was read is the shift of what was read -/
theorem shR_canon {ns ds : List Nat} {b : Nat} (hns : ∀ j ∈ ns, j < 64) (hne : ns.length ≠ 0) (h : shR ns b = .ok ds) :
    ds ≠ [] ∧ (∀ c ∈ ds, RunCode c) ∧ pEnc sgn (u16 ds) (((u16 ds).length + 2) / 3) = ns.map fun j => sgn.getD j 0 := by
  have hl := nInts_length ns
  unfold shR at h
  split at h
  · cases h
  · rename_i h1
    split at h
    · cases h
    · rename_i h2
      have h2 : wTot (nInts ns) % 2 ^ (6 * ns.length % 8) = 0 := Decidable.not_not.mp h2
      split at h
      · cases h
      · rename_i h3
        obtain ⟨m, s9, h6, hm, hs, hcnt⟩ := even_split h1 h3
        clear h1 h3
        rw [hm, h6, Nat.add_sub_cancel_left] at h
        rw [hs] at h2
        have hb := num_lt (B := 64) (by decide) (nInts ns) (nInts_in hns)
        rw [hl] at hb
        have hp : (0 : Int) < 2 ^ s9 := Int.pow_pos (by decide)
        have e64 : (64 : Int) ^ ns.length = 65536 ^ m * 2 ^ s9 := by
          rw [p64, show (65536 : Int) ^ m = 2 ^ (16 * m) by rw [Int.pow_mul]; rfl, ← Int.pow_add, h6]
        have hX := num_digs (B := 65536) (by decide) m (wTot (nInts ns) / 2 ^ s9) (Int.ediv_nonneg hb.1 (Int.le_of_lt hp)) (Int.ediv_lt_of_lt_mul hp (by rw [← e64]; exact hb.2))
        have hin := digs_in (B := 65536) (by decide) (wTot (nInts ns) / 2 ^ s9) m
        have hdl := digs_len 65536 (wTot (nInts ns) / 2 ^ s9) m
        generalize digs 65536 (wTot (nInts ns) / 2 ^ s9) m = us at h hX hin hdl
        obtain ⟨g1, g2⟩ := sc_u16 us 0 0 ds (.inl rfl) hin h
        have g1 : u16 ds = us.flatMap octs := g1
        have hlen : (us.flatMap octs).length = 2 * m := by rw [octs_len, hdl]
        have hoi : ∀ k ∈ us.flatMap octs, 0 ≤ k ∧ k < 256 := fun k hk => by
          obtain ⟨u, hu, hk⟩ := List.mem_flatMap.mp hk
          exact octs_in (hin u hu) hk
        refine ⟨fun q => ?_, g2, ?_⟩
        · rw [q] at g1
          have e0 := congrArg List.length g1
          rw [hlen] at e0
          have e0 : 0 = 2 * m := e0
          rw [← e0] at hcnt
          exact hne hcnt.symm
        · rw [g1, pEnc_sixes sgn _ hoi, gTot_num, num_octs, hX, hlen, hcnt, h6, show 8 * (2 * m) = 16 * m from (Nat.mul_assoc 8 2 m).symm, Nat.add_sub_cancel_left, Int.ediv_mul_cancel (Int.dvd_of_emod_eq_zero h2)]
          have hd := digs_num (B := 64) (by decide) (nInts ns) (nInts_in hns)
          have e : sixes (wTot (nInts ns)) ns.length = (digs 64 (num 64 (nInts ns)) (nInts ns).length).map Int.toNat := by
            unfold sixes digs
            rw [List.map_map, hl]; rfl
          rw [e, hd]
          unfold nInts
          rw [List.map_map, List.map_map]
          exact List.map_congr_left fun j _ => rfl
theorem drop_at {os : List Int} {i : Nat} (h : i < os.length) : os.drop i = os.getD i 0 :: os.drop (i + 1) := by
  rw [List.drop_eq_getElem_cons h, List.getD_eq_getElem?_getD, List.getElem?_eq_getElem h]; rfl
theorem pre_ok {x ds : List Nat} {r : Rdg} (h : pre x r = .ok ds) : ∃ r', r = .ok r' ∧ ds = x ++ r' := by
  cases r with
  | error k => cases h
  | ok r => cases h; exact ⟨r, rfl, rfl⟩
noncomputable def Good (os : List Int) (i : Nat) (sh : Int) (ds : List Nat) : Prop :=
  enc ds = os.drop i ∧ ((i : Int) = sh → ∀ c ∈ ds.head?, plainN c = true) ∧ ∀ c ∈ ds, c < 1114112 ∧ ¬ (55296 ≤ c ∧ c ≤ 57343)
theorem run_ne {a e n : Nat} (h : a ≤ e) (h2 : ¬ e = a) (h3 : e < n) : min (e - a) (n - a) ≠ 0 := by lia
theorem sub_step {a i k n : Nat} (h : a - i ≤ n + 1) (hk : i < k) : a - k ≤ n := by lia
theorem plain_code {x : Int} (h : 32 ≤ x ∧ x ≤ 126) : plainN x.toNat = true ∧ ((x.toNat : Nat) : Int) = x ∧ x.toNat < 1114112 ∧ ¬ (55296 ≤ x.toNat ∧ x.toNat ≤ 57343) :=
  ⟨(plainN_iff _).mpr (by lia), by lia, by lia, by lia⟩
theorem rd_good {os : List Int} : ∀ (n i : Nat) (sh : Int) (ds : List Nat), os.length - i ≤ n → rd os i sh = .ok ds → Good os i sh ds := by
  intro n
  induction n with
  | zero =>
    intro i sh ds hn h
    have hle : os.length ≤ i := Nat.le_of_sub_eq_zero (Nat.le_zero.mp hn)
    rw [rd_done hle] at h
    cases h
    exact ⟨by rw [List.drop_of_length_le hle]; exact enc_nil, (fun _ _ q => nomatch q), fun _ q => nomatch q⟩
  | succ n ih =>
    intro i sh ds hn h
    rcases Nat.lt_or_ge i os.length with hi | hi
    · by_cases h1 : 32 ≤ os.getD i 0 ∧ os.getD i 0 ≤ 126
      · obtain ⟨hpl, hc, hc3⟩ := plain_code h1
        by_cases h38 : os.getD i 0 = 38
        · by_cases h45 : os[sEnd os (i + 1)]? = some 45
          · have hlt : sEnd os (i + 1) < os.length := (List.getElem?_eq_some_iff.mp h45).1
            have hg45 : os.getD (sEnd os (i + 1)) 0 = 45 := by rw [List.getD_eq_getElem?_getD, h45]; rfl
            by_cases he : sEnd os (i + 1) = i + 1
            · rw [rd_amp hi h38 h45 he] at h
              obtain ⟨r, hr, rfl⟩ := pre_ok h
              obtain ⟨g1, g2, g3⟩ := ih (i + 2) sh r (sub_step hn (Nat.lt_add_of_pos_right (by decide))) hr
              rw [he] at hg45 hlt
              refine ⟨?_, fun _ c hc => ?_, fun c hc => ?_⟩
              · rw [List.cons_append, List.nil_append, enc_cons_plain (by decide), g1, drop_at hi, drop_at hlt, h38, hg45]; rfl
              · cases hc; decide
              · rcases List.mem_cons.mp hc with rfl | hc
                · decide
                · exact g3 c hc
            · by_cases hs : (i : Int) = sh
              · rw [rd_need hi h38 h45 he hs] at h; cases h
              · cases hq : shR (nsOf os (i + 1) (sEnd os (i + 1))) (i + 1) with
                | error k => rw [rd_bad hi h38 h45 he hs hq] at h; cases h
                | ok d1 =>
                  rw [rd_shift hi h38 h45 he hs hq] at h
                  obtain ⟨r, hr, rfl⟩ := pre_ok h
                  have hge := sEnd_ge os (i + 1)
                  obtain ⟨g1, g2, g3⟩ := ih (sEnd os (i + 1) + 1) _ r (sub_step hn (Nat.lt_succ_of_le (Nat.le_of_succ_le hge))) hr
                  obtain ⟨s1, s2⟩ := nsOf_signs os (i + 1)
                  have hnl : (nsOf os (i + 1) (sEnd os (i + 1))).length ≠ 0 := by
                    have e0 := congrArg List.length s1
                    rw [List.length_map, List.length_take, List.length_drop] at e0
                    rw [← e0]
                    exact run_ne hge he hlt
                  obtain ⟨c1, c2, c3⟩ := shR_canon s2 hnl hq
                  refine ⟨?_, fun q => absurd q hs, fun c hc => ?_⟩
                  · rw [enc_app_run c1 (fun c hc => (c2 c hc).1) (g2 rfl), g1]
                    unfold encRun
                    rw [c3, ← s1, drop_at hi, h38]
                    have e : os.drop (i + 1) = (os.drop (i + 1)).take (sEnd os (i + 1) - (i + 1)) ++ os.drop (sEnd os (i + 1)) := by
                      have := (List.take_append_drop (sEnd os (i + 1) - (i + 1)) (os.drop (i + 1))).symm
                      rwa [List.drop_drop, Nat.add_sub_cancel' hge] at this
                    conv => rhs; rw [e, drop_at hlt, hg45]
                    simp
                  · rcases List.mem_append.mp hc with hc | hc
                    · exact (c2 c hc).2
                    · exact g3 c hc
          · rw [rd_open hi h38 h45] at h; cases h
        · rw [rd_plain hi h1.1 h1.2 h38] at h
          obtain ⟨r, hr, rfl⟩ := pre_ok h
          obtain ⟨g1, g2, g3⟩ := ih (i + 1) sh r (sub_step hn (Nat.lt_succ_self i)) hr
          refine ⟨?_, fun _ c hc => ?_, fun c hc => ?_⟩
          · rw [List.cons_append, List.nil_append, enc_cons_plain hpl, if_neg (fun q => h38 (by rw [← hc, q]; rfl)), g1, hc, drop_at hi]; rfl
          · cases hc; exact hpl
          · rcases List.mem_cons.mp hc with rfl | hc
            · exact hc3
            · exact g3 c hc
      · rw [rd_raw hi h1] at h; cases h
    · rw [rd_done hi] at h
      cases h
      exact ⟨by rw [List.drop_of_length_le hi]; exact enc_nil, (fun _ _ q => nomatch q), fun _ q => nomatch q⟩
theorem rd_valid {os : List Int} {ds : List Nat} (h : rd os 0 (-1) = .ok ds) : ∀ c ∈ ds, c < 1114112 ∧ ¬ (55296 ≤ c ∧ c ≤ 57343) := (rd_good _ _ _ _ (Nat.le_refl _) h).2.2
theorem rd_canon {os : List Int} {ds : List Nat} (h : rd os 0 (-1) = .ok ds) : enc ds = os := (rd_good _ _ _ _ (Nat.le_refl _) h).1

theorem keys11 : True := by
  k_with "wpOn" => ((k_here; first
  | ((with_reducible show wpOn _ _ (execs (Stmt.Return (some (Expr.BoolOp _ _ _)) _ :: _) _) _ _ _); k_dflt refine on_execs_cons (on_Return (on_And2 ?_)))
  | ((with_reducible show wpOn _ _ (eval (Expr.Compare _ _ _ _) _) _ _ _); k_dflt refine on_Compare1 (on_Call (f := .none) ?_))
  | ((with_reducible show wpOn _ _ (call (Value.ref 137) _) _ _ _); refine halt ?_)))
  trivial

section
variable {prog p : Program} {lz : List Str} {w : World} {mean : ExcName → Option Value} {mg mb : Str → Option Value} {dp un : Nat} {gd : Option (List Code)} {n : Nat}
  {Q : Value → Shared → Prop} {s : Shared}
theorem range_getDI (ks : List Int) : (List.range ks.length).map (fun i => ks.getD i 0) = ks := by
  refine List.ext_getElem (by simp) fun i h1 h2 => ?_
  simp [h2]
theorem stay_bare {h₀ G : Heap} {L a : Addr} {m : Str → Option Value} {cn : Str} {ccd : Value} (F : Fr h₀ L G m) (cs : Scope) : ∀ b o, h₀.get? b = some o → (FX.bare G [envOf cn cs L a ccd]).get? b = some o := fun b o q => hideAll_get _ (F.keep b o q) fun hm => by
  rcases kts_mem hm with z | z
  · rw [z, kts_self F] at q; cases q
  · cases z
/-- the pieces' texts -/
theorem pieces {ys : List Value} (h : ∀ (i : Nat) (y : Value), ys[i]? = some y → ∃ ds : List Nat, (∀ c ∈ ds, c < 256) ∧ ds.length ≤ 20 ∧ ∃ t, y = .str ⟨ds.toArray⟩ t) :
    ∃ tx : List (List Nat), StrsAre ys (tx.map fun d => (⟨d.toArray⟩ : PySem.Str)) ∧ tx.length = ys.length ∧ tx.flatten.length ≤ 20 * ys.length ∧ ∀ c ∈ tx.flatten, c < 256 := by
  induction ys with
  | nil => exact ⟨[], .nil, rfl, Nat.zero_le _, fun _ h => nomatch h⟩
  | cons y ys ih =>
    obtain ⟨ds, h1, h2, t, rfl⟩ := h 0 y rfl
    obtain ⟨tx, g1, g2, g3, g4⟩ := ih fun i y hy => h (i + 1) y hy
    refine ⟨ds :: tx, .cons _ _ g1, by simp [g2], ?_, fun c hc => ?_⟩
    · rw [List.flatten_cons, List.length_append, List.length_cons]; lia
    · rcases List.mem_append.mp hc with hc | hc
      · exact h1 c hc
      · exact g4 c hc
set_option maxHeartbeats 4000000 in
theorem ct_law {l : Addr} {vs : List Value} {ns : List Int} (S : Sit p lz w mean mg mb dp un gd s.heap [] (n + 10) s.heap)
  (hl : s.heap.IsList l vs.toArray) (hi : IntsAre vs ns) (hk : ns.length ≤ 63)
  (hret : ∀ h' tk', s.heap.StaysIn h' → Q (.bool true) { s with heap := h', toks := tk' }) :
  wpOn (model prog w) (ar dp un gd []) (call (.ref 199) [.ref l]) Q noE s := by
  k_dflt refine' on_enterS (binds := [(Str.ofString "script", .ref l)]) S ?k6 ?k7 ?k9 ?kB ?c2 ?c3 ?c4 ?c5 ?_
  walk_at "enter_s"
  k_steps
  (rename Fr _ _ _ _ => F5); (rename News _ _ _ _ => N5); (rename IntsAre _ _ => hI)
  have hwl := hI.length
  refine comp_listB rfl F5 N5 (.inr ⟨_, .head _, rfl, _, rfl⟩) (by rw [sizeLine_eq]; simp at hwl ⊢; lia) fun g => ?_
  refine comp_each (fun i y => ∃ ds : List Nat, (∀ c ∈ ds, c < 256) ∧ ds.length ≤ 20 ∧ ∃ t, y = .str ⟨ds.toArray⟩ t) ?_ (.inr ⟨_, .head _, rfl, _, rfl⟩) ?_
  · rintro i v I oI C oC D m₂ ys h tk E' hi5 hv5 hC5 hx5 F5 N5 off ne
    obtain ⟨c5, t5, rfl⟩ : ∃ c t, v = .int c t := by
      have hi6 : i < (List.take 10 ns).length := by simp at hi5; lia
      obtain ⟨t5, ht5⟩ := hI.get i (List.take 10 ns)[i] (List.getElem?_eq_getElem hi6)
      rw [List.getElem?_toArray, ht5] at hv5
      exact ⟨_, t5, (Option.some.inj hv5).symm⟩
    k_steps
    refine ct_piece (n := n + 7) (Sit.use B1 F5 X1 T1 (by walk_at "sitn") (by walk_at "sitn")) ?_
    intro ds h1 h2 t7 h7 tk7 k7
    have F7 := fr_stays F5 k7
    have N7 := news_stays N5 k7
    k_steps
    exact LCg.CompEnd.intro F7 N7 _ (fun _ hp => hp) off trivial ⟨rfl, ds, h1, h2, t7, rfl⟩
  · intro ys hyl hy
    obtain ⟨tx, hst, htl, hfl, hfc⟩ := pieces hy
    clear hy
    have hyl2 : ys.length ≤ 10 := by simp at hyl hwl; lia
    k_steps
    (rename Fr _ _ _ _ => F6); (rename News _ _ _ _ => N6)
    have hwt : ((tx.map fun d => (⟨d.toArray⟩ : PySem.Str)).map (·.length)).sum + (tx.map fun d => (⟨d.toArray⟩ : PySem.Str)).length ≤ 1048576 := by
      have e1 : (tx.map fun d => (⟨d.toArray⟩ : PySem.Str)).map (·.length) = tx.map List.length := by rw [List.map_map]; refine List.map_congr_left fun d _ => ?_; simp [Str.length]
      rw [e1, ← List.length_flatten, List.length_map]; lia
    refine join_listW (items := ys.toArray) ⟨_, (N6 _ (.head _)).1, rfl, _, rfl⟩ hst (by decide) hwt fun t' k' => ?_
    rw [join_lists]
    have hcl : tx.flatten.length ≤ 200 := by lia
    clear hwt hst htl hfl
    generalize tx.flatten = cs at hfc hcl
    have hl0 := str_len cs
    k_steps
    (rename Fr _ _ _ _ => F7); (rename News _ _ _ _ => N7)
    refine comp_str rfl F7 N7 (by rw [sizeLine_eq]; simp; lia) fun g => ?_
    refine comp_each (fun i y => ∃ t, y = .int ((cs.map fun c : Nat => (c : Int)).getD i 0) t) ?_ trivial ?_
    · rintro i v I oI C oC D m₂ zs h tk E' hi5 ⟨c5, t5, hc5, rfl⟩ hC5 hx5 F5 N5 off ne
      have hi6 : i < cs.length := by simpa using hi5
      k_steps
      refine LCg.CompEnd.intro F5 N5 _ (fun _ hp => hp) off trivial ⟨rfl, _, congrArg (fun z => Value.int z _) ?_⟩
      have hc6 : cs[i]? = some c5 := by simpa using hc5
      rw [os_getD rfl hi6]
      rw [List.getElem?_eq_getElem hi6] at hc6
      rw [Option.some.inj hc6]
    · intro xs hxl hx
      have hIx := intsAre_of hxl hx
      clear hx
      generalize hos : (cs.map fun c : Nat => (c : Int)) = os at hIx
      have hol : os.length = cs.length := by rw [← hos, List.length_map]
      have hin : KBa.In os := by
        intro k hk
        rw [← hos] at hk
        obtain ⟨c, hc, rfl⟩ := List.mem_map.mp hk
        have := hfc c hc; lia
      have hxo : IntsAre xs os := by
        have e : (List.range cs.length).map (fun i => os.getD i 0) = os := by rw [← hol]; exact range_getDI os
        rw [show (⟨cs.toArray⟩ : PySem.Str).cps.size = cs.length by simp, e] at hIx
        exact hIx
      clear hIx
      k_steps
      (rename Fr _ _ _ _ => F8); (rename News _ _ _ _ => N8)
      refine ct_lread (n := n + 6) (Sit.use B1 F8 X1 T1 (by walk_at "sitn") (by walk_at "sitn")) hos.symm (by lia) ?_ ?_
      · intro k hR T u h9 tk9 k9 e9 f9
        have F9 := fr_stays F8 k9
        have N9 := news_add F8 N8 k9 e9 f9
        k_steps
        (rename Fr _ _ _ _ => F10); (rename News _ _ _ _ => N10)
        have stay := stay_bare (cn := Str.ofString "law") (a := 199) (ccd := .ref 198) F10
        refine cx_text (n := n + 3) (FX.Sit.useB (n := n + 9) B1 F10 X1 T1 (by walk_at "sitn") (by walk_at "sitn")) (X1.keeps (stay _)) (T1.keeps (stay _)) (KBa.ints_make hin) (by lia) (fun ds q => by rw [hR] at q; cases q) ?_
        intro k2 q2 e11 h11 tk11 x11
        obtain rfl : k = k2 := by rw [hR] at q2; cases q2; rfl
        refine FX.note_next (Around.frames_deeper B1.stack) rfl x11 fun h12 x12 => ?_
        refine FX.land x12 fun h13 x13 => ?_
        obtain ⟨g13, F13, B13, U13, X13, T13, ne13, oe13, ve13, he13, hc13, _⟩ := FX.ground B1 F10 X1 T1 x13
        have N13 : News g13 L1 h13 [] := fun p hp => nomatch hp
        refine FX.catch_as (C := 64) ?_
        k_steps
        refine ⟨rfl, (FX.cls_of (X13.keeps F13.keep)).2, ⟨oe13, he13, hc13⟩, FX.land_again x13 fun h14 x14 => ?_⟩
        obtain ⟨g14, F14, B14, U14, X14, T14, ne14, oe14, ve14, he14, hc14, hd14⟩ := FX.ground B1 F10 X1 T1 x14
        refine FX.bind_at F14 x14.has (by rfl) ne14 fun h15 F15 A15 hs15 => ?_
        have N15 : News g14 L1 h15 [] := fun p hp => nomatch hp
        have K15 := (FX.cls_of (X14.keeps F15.keep)).2
        have he15 := (hs15 _ ne14).trans he14
        clear F13 N13
        k_steps
        refine FX.read_at K15 A15 he15 hc14 hd14 fun u15 => ?_
        k_steps
        (rename Fr _ _ _ _ => F16)
        exact ret_v (s := s) hret (by simp) fun b o q => F16.keep b o (B14.stays b o q)
      · intro ds hR hdl T t9 u h9 tk9 k9 e9 f9
        have F9 := fr_stays F8 k9
        have N9 := news_add F8 N8 k9 e9 f9
        have hl9 := str_len ds
        k_steps
        (rename Fr _ _ _ _ => F10); (rename News _ _ _ _ => N10)
        refine cx_text (n := n + 3) (Sit.use (n := n + 9) B1 F10 X1 T1 (by walk_at "sitn") (by walk_at "sitn")) X1 T1 (KBa.ints_make hin) (by lia) ?_ (fun k q => by rw [hR] at q; cases q)
        intro ds2 q2 t11 h11 tk11 k11
        obtain rfl : ds = ds2 := by rw [hR] at q2; cases q2; rfl
        have F11 := fr_stays F10 k11
        have N11 := news_stays N10 k11
        k_steps
        · (rename Fr _ _ _ _ => F12); (rename News _ _ _ _ => N12)
          k_dflt refine' unhalt (ct_seven (n := n + 5) (Sit.use ?B2 ?F2 ?X2 ?T2 ?r2 ?u2) (rd_valid hR) (by lia) ?_)
          case B2 => exact B1
          case F2 => exact F12
          case X2 => exact X1
          case T2 => exact T1
          case r2 => lia
          case u2 => lia
          intro b13 t13 h13 tk13 k13 i13
          rw [rd_canon hR] at i13
          have F13 := fr_stays F12 k13
          have N13 := news_stays N12 k13
          have hb : b13 = byteArr os := by rw [← i13, byteArr_ints]
          k_steps
          exact ret_v (s := s) hret (by rw [hb]; simp) (Fr.keep (by assumption))
        · exfalso
          (rename (_ == _) = false => c9)
          simp at c9
end

end Mine
set_option maxRecDepth 100000 in
set_option maxHeartbeats 8000000 in
theorem PySem.Challenge.cw_nz0290_02_holds : PySem.Challenge.rw_nz0290_02.Holds := by
  refine Mine.hd ?_
  intro w s₀ s₁ mg mb G Y fa o pm cd doc dV kV ho hd hcd hD hmg hg args vals as hpre hlay hrd hwl hlo
  have KX := kIn_of Y
  refine Ground.open G ?_
  intro T B D TE TW
  wrow_args hpre hlay hrd hwl hlo
  have hfa : fa = 199 := by
    have e1 := mg_of (n := PySem.Str.ofString "law") (v := .ref 199) KX T.g (by kernel_rfl)
    rw [hmg] at e1
    cases e1; rfl
  subst hfa
  rename_i hI _ hcond _
  refine Mine.on_mono (Mine.ct_law (n := 0) (dp := 1 + claimMargin) (un := 4) (gd := some []) ⟨KX, T, below_caller s₁.heap, by unfold Mine.Room; decide, by unfold Mine.Units; decide⟩ (by assumption) hI (by omega) (Q := fun v s' => GoodWG PySem.Challenge.rw_nz0290_02.row.claim (classAt s₀.heap) (ExcName.means s₀.heap) _ s₁ (.ok (.ret v)) s') (fun h' tk' k => GoodW.toG ⟨.inl ⟨.bool true, .bool true, [], rfl, ?_, .bool true, ?_, ?_⟩, fun b o e => k b o e, rfl, hg⟩)) (fun _ _ x => x) (fun _ _ x => x.elim)
  · intro cls; rfl
  · wrow_post
  · exact unshared_nil
