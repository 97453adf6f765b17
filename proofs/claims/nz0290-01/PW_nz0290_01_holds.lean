import PyProof.Rows.All
import Wide.All
import OpenK.AllK
import Wide.FinOn
import PySem.Challenge.RW_nz0290_01
open PySem PySem.W PySem.Calls PySem.Spec PyProof.Rows
set_option Elab.async false
set_option maxRecDepth 100000
set_option compiler.extract_closed false
namespace Mine
/-- the codes that hold a bytearray while they stand on the machine's stack -/
def holders : List String := "bytearray.__contains__" :: "bytearray.__mod__" :: "bytearray.__rmod__" :: "_struct.pack_into.held" :: "bytearray.find.held" :: Builtin.Bytes.decodersThatHold
def calmC : Code → Bool
  | .builtin id _ => !holders.contains id
  | _ => true
/-- no such code stands on the stack -/
def Calm (Γ : PySem.Ctx) : Prop := calmC Γ.code = true ∧ ∀ x ∈ Γ.below, calmC x.1 = true
theorem Calm.enter {Γ : PySem.Ctx} {c : Code} {h : Option Value} {p : Pos} (x : Calm Γ) (hc : calmC c = true) : Calm (Γ.enter c h p) :=
  ⟨hc, fun y hy => by
    rcases List.mem_cons.mp hy with rfl | hy
    · exact x.1
    · exact x.2 y hy⟩
theorem Calm.goto {Γ : PySem.Ctx} {c : Code} (x : Calm Γ) (hc : calmC c = true) : Calm (Γ.goto c) := ⟨hc, x.2⟩

/-- wpAny over calm stacks alone -/
def wpOn {α : Type} (M : Model) (A : Around) (t : Sem α) (Q : α → Shared → Prop) (E : Value → Shared → Prop) (s : Shared) : Prop :=
  ∀ Γ p, Γ.In A → Calm Γ → Sem.wp M Γ t (fun a _ s' => Q a s') (fun e _ s' => E e s') p s
def codeOn (M : Model) (A : Around) (c : Code) (R : Result → Shared → Prop) (s : Shared) : Prop :=
  ∀ Γ p, Γ.code = c → Γ.Below A → Calm Γ → wpCode M Γ R p s

section
variable {α β : Type} {M : Model} {A : Around} {E : Value → Shared → Prop} {s : Shared}
theorem on_any {t : Sem α} {Q : α → Shared → Prop} (h : wpAny M A t Q E s) : wpOn M A t Q E s := fun Γ p hΓ _ => h Γ p hΓ
theorem on_mono {t : Sem α} {Q Q' : α → Shared → Prop} {E' : Value → Shared → Prop} (h : wpOn M A t Q E s) (hQ : ∀ a s, Q a s → Q' a s) (hE : ∀ e s, E e s → E' e s) : wpOn M A t Q' E' s :=
  fun Γ p hΓ q => Sem.wp_mono M Γ t (fun a _ s => hQ a s) (fun e _ s => hE e s) p s (h Γ p hΓ q)
theorem on_pure {a : α} {Q : α → Shared → Prop} (h : Q a s) : wpOn M A (pure a) Q E s := fun _ _ _ _ => h
theorem on_bind {m : Sem α} {f : α → Sem β} {Q : β → Shared → Prop} (h : wpOn M A m (fun a s' => wpOn M A (f a) Q E s') E s) : wpOn M A (m >>= f) Q E s := fun Γ p hΓ q => by
  rw [Sem.wp_bind']
  exact Sem.wp_mono M Γ m (fun a p' s' h' => h' Γ p' hΓ q) (fun _ _ _ h' => h') p s (h Γ p hΓ q)
/-- a part of which the library speaks, the rest on calm stacks -/
theorem on_then {m : Sem α} {f : α → Sem β} {Q : β → Shared → Prop} (h : wpAny M A m (fun a s' => wpOn M A (f a) Q E s') E s) : wpOn M A (m >>= f) Q E s := on_bind (on_any h)
theorem on_onRaise {m : Sem α} {k : Value → Sem Unit} {Q : α → Shared → Prop}
    (h : wpOn M A m Q (fun e s' => wpOn M A (k e) (fun _ s'' => E e s'') E s') s) : wpOn M A (m.onRaise k) Q E s := fun Γ p hΓ q => by
  rw [Sem.wp_onRaise]
  exact Sem.wp_mono M Γ m (fun _ _ _ h' => h') (fun e p' s' h' => h' Γ p' hΓ q) p s (h Γ p hΓ q)
theorem on_holding {vs : List Value} {m : Sem α} {Q : α → Shared → Prop} (h : wpOn M A m Q E s) : wpOn M A (holding vs m) Q E s :=
  fun Γ p hΓ q => by rw [Sem.wp_holding]; exact h Γ p hΓ q
theorem on_standAt {pos : Pos} {Q : Unit → Shared → Prop} (h : Q () s) : wpOn M A (standAt pos) Q E s := fun _ _ _ _ => h
theorem on_point {Q : Unit → Shared → Prop} (h : Q () s) : wpOn M A point Q E s := fun _ _ _ _ => h
theorem on_of_in1 {t : Sem α} {Q : α → Shared → Prop} (h : wpOn M A.in1 t Q E s) : wpOn M A t Q E s :=
  fun Γ p hΓ q => h Γ p ⟨hΓ.1, hΓ.2.1, hΓ.2.2.1, hΓ.2.2.2.1, Nat.le_succ_of_le hΓ.2.2.2.2⟩ q
theorem codeOn_any {c : Code} {R : Result → Shared → Prop} (h : codeAny M A c R s) : codeOn M A c R s := fun Γ p hc hΓ _ => h Γ p hc hΓ
theorem on_code {c : Code} {Q : Value → Shared → Prop} (hc : codeOn M A c (fun r s' => match r with | .ok (.ret v) => Q v s' | .ok _ => False | .error e => E e s') s) (hq : calmC c = true) :
    wpOn M A (runValue c) Q E s := fun Γ p hΓ q => by
  rw [Sem.wp_runValue]
  exact hc _ p rfl (hΓ.enter c none p (by intro x; cases x)) (q.enter hq)
theorem on_call {f : Value} {pos : List Value} {kw : List (Str × Value)} {Q : Value → Shared → Prop}
    (hc : codeOn M A (.call f ⟨pos, kw⟩) (fun r s' => match r with | .ok (.ret v) => Q v s' | .ok _ => False | .error e => E e s') s) : wpOn M A (call f pos kw) Q E s := on_code hc rfl
theorem on_run {c : Code} {Q : Flow → Shared → Prop}
    (hc : codeOn M (A.mark none) c (fun r s' => match r with | .ok f => Q f s' | .error e => E e s') s) (hq : calmC c = true) : wpOn M A (run c none) Q E s :=
  fun Γ p hΓ q => by rw [Sem.wp_run]; exact hc _ p rfl (hΓ.enter c none p (by intro x; cases x)) (q.enter hq)
theorem codeOn_tree {c : Code} {R : Result → Shared → Prop}
    (h : wpOn M (A.under c) (M.den c) (fun fin s' => match fin with | .done f => R (.ok f) s' | .again c' => c'.quiet = true ∧ calmC c' = true ∧ codeOn M A c' R s')
      (fun e s' => R (.error e) s') s) : codeOn M A c R s := fun Γ p hc hΓ q => by
  rw [wpCode_iff_wp, hc]
  refine Sem.wp_mono M Γ _ (fun fin p' s' h' => ?_) (fun _ _ _ h' => h') p s (h Γ p (hc ▸ hΓ.in) q)
  cases fin with
  | done f => exact h'
  | again c' => exact ⟨h'.1, h'.2.2 (Γ.goto c') p' rfl (hΓ.goto c') (q.goto h'.2.1)⟩
theorem codeOn_mono {c : Code} {R R' : Result → Shared → Prop} (h : codeOn M A c R s) (hR : ∀ r s, R r s → R' r s) : codeOn M A c R' s :=
  fun Γ p hc hΓ q => wpCode_mono hR (h Γ p hc hΓ q)
theorem codeOn_turns {c : Code} {R : Result → Shared → Prop} (hq : c.quiet = true) (hc : calmC c = true) (I : Nat → Shared → Prop)
    (turn : ∀ n s, I n s → wpOn M (A.under c) (M.den c)
      (fun fin s' => match fin with | .done f => R (.ok f) s' | .again c' => (c' = c ∧ ∃ m, m < n ∧ I m s') ∨ (c'.quiet = true ∧ calmC c' = true ∧ codeOn M A c' R s')) (fun e s' => R (.error e) s') s)
    (n : Nat) (h : I n s) : codeOn M A c R s := by
  induction n using Nat.strongRecOn generalizing s with
  | ind n ih =>
    refine codeOn_tree (on_mono (turn n s h) (fun fin s' hf => ?_) fun _ _ h' => h')
    cases fin with
    | done f => exact hf
    | again c' =>
      rcases hf with ⟨rfl, m, hm, hI⟩ | hf
      · exact ⟨hq, hc, ih m hm hI⟩
      · exact hf
theorem on_stackAny {f : Code × Pos → Bool} {Q : Bool → Shared → Prop} (hf : ∀ c p, calmC c = true → f (c, p) = false) (h : Q false s) : wpOn M A (do return (← stack).any f) Q E s := fun Γ p _ q => by
  show Q (((Γ.code, p) :: Γ.below).any f) s
  have e : ((Γ.code, p) :: Γ.below).any f = false := by
    rw [List.any_eq_false]
    intro x hx
    rcases List.mem_cons.mp hx with rfl | hx
    · rw [hf _ _ q.1]; exact Bool.false_ne_true
    · obtain ⟨c, p'⟩ := x
      rw [hf _ _ (q.2 _ hx)]; exact Bool.false_ne_true
  rw [e]; exact h
end

/-! the head, its last premise over calm stacks -/
abbrev WalkOn (q : Program) (loose : List Str) (XP : (Str → Option Value) → Heap → Prop) (YP : World → Heap → Prop) (r : RowW) (d : DefRec) (kwd : List (Str × Expr)) : Prop :=
  ∀ (w : World) (s₀ s₁ : Shared) (mg mb : Str → Option Value), Ground q loose r.records XP w s₀ mg mb s₁.heap → YP w s₁.heap → ∀ (a : Addr) (o : Obj) (pm cd doc dV kV : Value), s₁.heap.get? a = some o →
    o.data = .func { docDef d.name d.params d.body d.scope pm cd doc with defaults := dV, kwdefaults := kV } → s₁.heap.CodeRec cd d.name → Dflts mg s₁.heap d.params kwd dV kV → mg d.name = some (.ref a) → s₁.gens = #[] →
    ∀ (args : List WData) (vals : List Value) (as : List Addr), r.claim.pre args = true → WData.layableAll args = true → ReadsAllW r.records (classAt s₀.heap) s₁.heap vals args as → WellAll w.params s₁.heap vals args → (∀ a ∈ as, (a == sysModules) = false) →
      wpOn (model r.prog w) callerA (call (.ref a) vals) (fun v s' => GoodWG r.claim (classAt s₀.heap) (ExcName.means s₀.heap) args s₁ (.ok (.ret v)) s')
        (fun e s' => GoodWG r.claim (classAt s₀.heap) (ExcName.means s₀.heap) args s₁ (.error e) s') s₁

theorem ends_on {prog : Program} {w : World} {t : Sem Fin} {s : Shared} {R : Result → Shared → Prop} (hreg : s.asleep)
    (h : wpOn (model prog w) callerA t (fun fin s' => ∃ f, fin = .done f ∧ (R (.ok f) s' ∧ leftWithCleanup s'.gens = false)) (fun e s' => R (.error e) s' ∧ leftWithCleanup s'.gens = false) s) :
    ∃ n r s' s'', runN (denote table) prog w n s ⟨t, .builtin "claim.caller" {}, default, []⟩ = .halted (outcomeOf r) s' ∧
      schedN (denote table) prog w n (.single s ⟨t, .builtin "claim.caller" {}, default, []⟩) = .halted (outcomeOf r) s' ∧ s'.forget = s''.forget ∧ R r s'' := by
  have h0 := h ⟨.builtin "claim.caller" {}, none, none, [], none⟩ default caller_in ⟨by decide +kernel, fun _ hx => nomatch hx⟩
  have h1 : Sem.wp (model prog w) ⟨.builtin "claim.caller" {}, none, none, [], none⟩ t
      (Sem.finPost (model prog w) ⟨.builtin "claim.caller" {}, none, none, [], none⟩ fun r s' => R r s' ∧ leftWithCleanup s'.gens = false)
      (fun e _ s' => R (.error e) s' ∧ leftWithCleanup s'.gens = false) default s :=
    Sem.wp_mono _ _ t (fun fin p' s' x => by obtain ⟨f, rfl, hf⟩ := x; exact hf) (fun _ _ _ x => x) default s h0
  obtain ⟨n, r, s₁, s₂, hs, hn, hfo, hR⟩ := wp_halts_full (M := model prog w) (R := R) hreg h1
  exact ⟨n, r, s₂, s₁, hn, hs, hfo, hR⟩

theorem callFrom_on {c : ClaimW} {tree : List Value → Sem PySem.Fin} {w : World} {s : Shared} {free : Addr → Prop} {gens : Prop} {kept : Heap → Prop} (hz : s.asleep) (hgens : s.gens = #[])
    (spec : ∀ args, c.pre args = true → WData.layableAll args = true → ∀ ord : List DictEntry → List DictEntry, (∀ l, (ord l).Perm l) →
      ∃ vs s₁, layAllW c.records (classAt s.heap) w.params ord args s = some (vs, s₁) ∧
        wpOn (model c.prog w) callerA (tree vs) (fun fin s' => ∃ f, fin = .done f ∧ (c.Ends s args vs s₁ (.ok f) s' ∧ s'.os = s.os ∧ AllBare s'.gens ∧ kept s'.heap))
          (fun e s' => c.Ends s args vs s₁ (.error e) s' ∧ s'.os = s.os ∧ AllBare s'.gens ∧ kept s'.heap) s₁) :
    c.CallFrom (fun vs => ⟨tree vs, .builtin "claim.caller" {}, default, []⟩) w free gens kept s := fun args hpre hlay ord hord => by
  obtain ⟨vs, s₁, hlaid, hcode⟩ := spec args hpre hlay ord hord
  have hal := layAllW_rest _ _ _ hlaid
  obtain ⟨k, res, s', s'', hrun, hsched, hfo, hcase, hos, hkp⟩ := ends_on (prog := c.prog) (w := w) (s := s₁) (R := fun r s' => c.Ends s args vs s₁ r s' ∧ s'.os = s.os ∧ kept s'.heap) (Shared.asleep_of_life hal.2.2.2 hz)
    (on_mono hcode (fun _ _ ⟨f, e, a, b, d, k⟩ => ⟨f, e, ⟨a, b, k⟩, leftWithCleanup_false_of_bare d⟩) fun _ _ ⟨a, b, d, k⟩ => ⟨⟨a, b, k⟩, leftWithCleanup_false_of_bare d⟩)
  obtain ⟨eh, _, _, eo, _⟩ := Shared.forget_eq hfo
  have hcase := hcase.congr eh
  have hkp : kept s'.heap := by rw [eh]; exact hkp
  rw [← eo] at hos
  have hlife : s'.heap.life = s.heap.life := (runN_life _ _ _ hrun).trans hal.2.2.2
  refine ⟨vs, s₁, hlaid, k, _, s', hsched, ?_, (fun _ i x hx => by rw [hgens] at hx; simp at hx), hkp, by rw [hlife], Shared.rest_eq hos⟩
  rcases hcase with ⟨v, rfl, d1, d2, d3, d4, d5⟩ | ⟨e, ob, cls, rfl, d1, d2, d3, d4, d5⟩
  · exact .inl ⟨v, rfl, d1, d2, d3, fun b o y _ => d4 b o y, d5⟩
  · exact .inr ⟨e, ob, cls, rfl, d1, d2, d3, d4, fun b o y _ => d5 b o y⟩

/-- the head's run, under a name of its own -/
abbrev LeftM {α : Type} (p q : Program) (loose : List Str) (Xt : Shared → Bool) (Yf : Shared → α) (Ya : World → α) (N : Nat) : Prop := LeftO p q loose Xt Yf Ya N
theorem PySem.W.holds_open {r : OpenRow} {q : Program} {loose : List Str} {Xt : Shared → Bool} {XP : (Str → Option Value) → Heap → Prop} {α : Type} {Yf : Shared → α} {Ya : World → α} {YP : World → Heap → Prop} {d : DefRec} {kwd : List (Str × Expr)} {N : Nat}
    (left : LeftM r.prog q loose Xt Yf Ya N) (hY : ∀ w s, Yf s = Ya w → YP w s.heap) (hYk : ∀ w h h', YP w h → (∀ b o, h.get? b = some o → h'.get? b = some o) → YP w h')
    (hX : ∀ s, Xt s = true → XP (s.heap.nsMap mainGlobals) s.heap) (hXk : ∀ mg h h', XP mg h → (∀ b o, h.get? b = some o → h'.get? b = some o) → XP mg h')
    (hdef : defOf q r.name = some (d, kwd)) (hp : r.prog.theDef r.name = some (d.params, d.body, d.scope)) (hk : kwWritten? d.params.kwonlyargs d.params.kw_defaults = some kwd) (hRf : ∀ s, Xt s = true → RecFacts r.records s.heap) (hwr : (!r.writes || r.records.isEmpty) = true)
    (k1 : r.wellSaid = true) (ok : (chainsOk q && opensWell r.prog && (frees r.toRowW && r.within.isEmpty)) = true) (hb : r.prog.bare) (hw : r.toRowW.promised)
    (walk : WalkOn q loose XP YP r.toRowW d kwd) : r.Holds := by
  obtain ⟨ok, k5⟩ := Bool.and_eq_true_iff.mp ok
  obtain ⟨hch, o1⟩ := Bool.and_eq_true_iff.mp ok
  obtain ⟨k5, k6⟩ := Bool.and_eq_true_iff.mp k5
  obtain ⟨hsame, hu, ha, hap, hm⟩ := frees_parts k5
  refine ⟨k1, hw, ⟨hb, o1, by show r.toRowW.makers.map _ = []; rw [hm]; rfl⟩, hw.witness, fun w => ⟨(left.behind hX hch w).1, fun s' hs' => ?_⟩⟩
  obtain ⟨s₀, hf, hg0, s, hT, hz, hgens, hg, G00, y⟩ := (left.behind (XP := fun mg h => XP mg h ∧ RecFacts r.records h) (fun s hs => ⟨hX s hs, hRf s hs⟩) hch w).2 s' hs'
  have G0 : Ground q loose [] XP w s (s.heap.nsMap mainGlobals) (s.heap.nsMap builtinsNs) s.heap := ⟨G00.T, G00.B, G00.D, G00.TE, G00.TD, G00.W, G00.X.1, G00.cls, G00.has, G00.apart, G00.once, G00.K⟩
  have hgens : s.gens = #[] := Array.eq_empty_of_size_eq_zero (beq_iff_eq.mp hgens)
  have G := G00.X.2.ground G0
  refine ⟨s₀, hf, hg0, s, hT, (fun n hn => ?_), G00.X.2.1, G00.X.2.2.1, callFrom_on (c := r.claim) (tree := fun vs => (do match ← nsGet mainNs r.name with
      | some f => do ret (← PySem.call f vs)
      | none => unsupported "claim.caller:no-such-global")) hz hgens fun args hpre hlay ord hord => ?_⟩
  · obtain rfl : n = r.name := by split at hn <;> simp_all
    exact pinned_of_view hg G0 hdef hp hk
  obtain ⟨⟨vs, s₁⟩, hlaid⟩ := Option.isSome_iff_exists.mp (layAllW_isSome (P := w.params) (ord := ord) G.has args r.args s (pre_splitW hpre).1)
  have keeps := layAllW_keeps _ _ _ hlaid
  have hal := layAllW_rest _ _ _ hlaid
  obtain ⟨as, hrd, hin, hold⟩ := reads_layAllW hord _ _ _ hlaid hlay s₁.heap (fun _ _ e => e)
  have L : Laid r.records w s s₁ args vs as := ⟨⟨ord, hord, hlaid⟩, hrd, hin, hold, keeps, hal.1.trans hgens, hal.2.2.1⟩
  have G₁ := G.keeps hXk keeps
  obtain ⟨a, o, pm, cd, doc, dV, kV, h1, h2, h3, h4, h5⟩ := G₁.fn hdef
  have main := walk w s s₁ _ _ G₁ (hYk _ _ _ (hY w s y) keeps) a o pm cd doc dV kV h2 h3 h4 h5 (defOf_name hdef ▸ h1) L.gens args vs as hpre hlay L.reads L.well (L.low G.low)
  have hi := ident_freeW hu ha hap
  have hwi : r.claim.within = [] := List.isEmpty_iff.mp k6
  refine ⟨vs, s₁, hlaid, on_then (wpAny_nsGet G₁.T.g ?_)⟩
  rw [h1]
  refine on_bind (on_mono main (fun v s' g => on_pure ⟨_, rfl, ?_⟩) fun e s' g => ?_)
  · have z := g.laid (c := r.claim) hsame hwi hi L
    exact ⟨z.1, z.2.1, z.2.2, fun q => ⟨namesKept_of hT hg _ keeps g.2.1.old, noTable hwr q⟩⟩
  · have z := g.laid (c := r.claim) hsame hwi hi L
    exact ⟨z.1, z.2.1, z.2.2, fun q => ⟨namesKept_of hT hg _ keeps g.2.1.old, noTable hwr q⟩⟩

set_option maxHeartbeats 8000000 in
open_top hd for PySem.Challenge.rw_nz0290_01

theorem filled : (PySem.Challenge.rw_nz0290_01 = PySem.Challenge.rw_nz0290_01) ∧ (hd.heap_39 = hd.heap_39) := by
  k_fill
  w_top off
  exact ⟨rfl, rfl⟩
section
variable {prog : Program} {w : World} {A : Around} {E : Value → Shared → Prop} {s : Shared} {env : Env} {h₀ : Heap} {x : Str} {body : List Stmt} {Q : Flow → Shared → Prop}

/-- a for over a range of any step -/
theorem kst_rangeS {σ : Type} {r : Addr} {a₀ b₀ c₁ : Int} {t₀ u₀ v₀ : Tok} {n : Nat} {m₀ : Str → Option Value} (Led : σ → List (Addr × Obj)) (ps : σ → List (Str × Value)) (Facts : σ → Prop) (stored : List Str) (P : List Int → σ → Prop) (c₀ : σ)
    (hh : A.handled = none) (hr : IsRange s.heap r a₀ b₀ c₁ t₀ u₀ v₀) (hsmall : Builtin.Range.small a₀ b₀ c₁ = true) (hn : Builtin.Range.rangeSize a₀ b₀ c₁ = (n : Int)) (F : Fr h₀ env.locals s.heap m₀) (N : News h₀ env.locals s.heap (Led c₀)) (hf : Facts c₀) (hk : ∀ p ∈ ps c₀, m₀ p.1 = some p.2) (hp : P [] c₀)
    (turn : ∀ (c : σ) (pre : List Int) (k : Int) t (u : Str → Option Value) h tk own, k = a₀ + (pre.length : Int) * c₁ → pre.length < n → OwnOff own ((Led c₀).map (·.1)) → Facts c → P pre c →
      Fr h₀ env.locals h (fun y => if y = x then some (.int k t) else kstB (fun z => if stored.contains z then u z else m₀ z) (ps c) y) → News h₀ env.locals h (Led c ++ own) →
      wpAny (model prog w) A (execs body env) (InvPostN h₀ env.locals (KstS Led ps Facts x stored m₀ P (pre ++ [k])) own ((Led c₀).map (·.1)) { s with heap := h, toks := tk } Q) E { s with heap := h, toks := tk })
    (done : ∀ (c : σ) (u : Str → Option Value) h tk pre, pre.length = n → Facts c → P pre c → Fr h₀ env.locals h (fun y => if y = x then u y else kstB (fun z => if stored.contains z then u z else m₀ z) (ps c) y) → News h₀ env.locals h (Led c) → Q .next { s with heap := h, toks := tk }) :
    wpAny (model prog w) A (pyIter (.ref r)) (fun it s₂ => LoopAtV prog w A h₀ env x body Q E it s₂) E s := by
  refine wpAny_pyIter_range hr hsmall ?_
  have W : Walks prog w A s.heap.objs.size [s.heap.objs.size] [s.heap.objs.size] n (fun i v => i < n ∧ ∃ t, v = .int (a₀ + i * c₁) t)
      (fun i h => IsRangeIter h s.heap.objs.size (a₀ + (i : Nat) * c₁) ((n : Int) - (i : Nat)) c₁) := (Walks.range hh _ a₀ c₁ n).bound
  have hlen : ((List.range n).map fun (i : Nat) => a₀ + (i : Int) * c₁).length = n := by simp
  refine loop_invN (fun i m nx => KstS Led ps Facts x stored m₀ P (((List.range n).map fun (i : Nat) => a₀ + (i : Int) * c₁).take i) m nx) W ?_ ?_ ?_ ?_ (by show IsRangeIter _ _ _ _ _; rw [hn]; simpa using Heap.get?_push_size _ rfl) (F.push _) (fun p hp => ⟨Heap.get?_push_of_some _ (N p hp).1, (N p hp).2⟩) ⟨c₀, rfl, hf, hk, fun _ _ _ _ => rfl, by simpa using hp⟩ ?_ ?_
  · intro hm
    exact absurd F.ns.lt ((List.mem_singleton.mp hm) ▸ Nat.lt_irrefl _)
  · intro b hb
    rw [List.mem_singleton.mp hb]
    exact next_is_new F
  · intro p hp hI
    exact absurd (Heap.lt_size (N p hp).1) ((List.mem_singleton.mp hI) ▸ Nat.lt_irrefl _)
  · intro p hp hI
    exact absurd (Heap.lt_size (N p hp).1) ((List.mem_singleton.mp hI) ▸ Nat.lt_irrefl _)
  · rintro i v m₁ nx h tk own hi ⟨_, t, rfl⟩ _ hoff ⟨c, rfl, hf', h1, h2, hp'⟩ F₁ N₁
    have hk' : ((List.range n).map fun (i : Nat) => a₀ + (i : Int) * c₁)[i]? = some (a₀ + (i : Int) * c₁) := by simp [hi]
    have hs : ((List.range n).map fun (i : Nat) => a₀ + (i : Int) * c₁).take (i + 1) = ((List.range n).map fun (i : Nat) => a₀ + (i : Int) * c₁).take i ++ [a₀ + (i : Int) * c₁] := by rw [List.take_add_one, hk']; rfl
    have hlen' : (((List.range n).map fun (i : Nat) => a₀ + (i : Int) * c₁).take i).length = i := by rw [List.length_take, hlen]; omega
    rw [hs]
    exact turn c _ _ t m₁ h tk own (by rw [hlen']) (by rw [hlen']; exact hi) hoff hf' hp' (kst_fr h1 h2 F₁) N₁
  · rintro m₁ nx h tk ⟨c, rfl, hf', h1, h2, hp'⟩ F₁ N₁
    have hl : ((List.range n).map fun (i : Nat) => a₀ + (i : Int) * c₁).take n = (List.range n).map fun (i : Nat) => a₀ + (i : Int) * c₁ := List.take_of_length_le (Nat.le_of_eq hlen)
    rw [hl] at hp'
    exact done c m₁ h tk _ hlen hf' hp' (kst_frOut h1 h2 F₁) N₁
end

section
variable {prog : Program} {w : World} {A : Around} {E : Value → Shared → Prop} {s : Shared} {h₀ : Heap} {L : Addr} {m : Str → Option Value} {env : Env}
  {elt iter : Expr} {x y : Str} {px py : Pos} {scope : Scope} {cl : List (Str × Addr)} {pos spos : Pos}
open LCg

def CompGo (prog : Program) (w : World) (A : Around) (h₀ : Heap) (L : Addr) (m : Str → Option Value) (env : Env) (elt : Expr) (x : Str) (scope : Scope) (cl : List (Str × Addr)) (Fin : Shared → List Value → List (Addr × Obj) → Prop) (E : Value → Shared → Prop) (xv : Value) (s₁ : Shared) : Prop :=
  wpAny (model prog w) A (pyIter xv) (fun it s₂ => ∃ I fp n P St S news, it = .ref I ∧ Walks prog w A I fp [I] n P St ∧ n ≤ sizeLine ∧ (∀ i h, St i h → ∃ o, h.get? I = some o) ∧
    (∀ i h h' o nw, St i h → h.get? I = some o → h'.get? I = some o → (∀ b o, h₀.get? b = some o → h'.get? b = some o) → News h₀ L h' nw → S nw → St i h') ∧ St 0 s₂.heap ∧ (∀ b ∈ fp, b < s₂.heap.objs.size) ∧
    Fr h₀ L s₂.heap m ∧ News h₀ L s₂.heap news ∧ L ≠ I ∧ h₀.get? I = none ∧ (∀ p ∈ news, p.1 ≠ I) ∧ S news ∧
    CompRest prog w A h₀ L m env elt x scope cl s₂ S P (Fin s₂) n 0 [] news) E s₁

theorem ListComp_G {Q : Value → Shared → Prop} (_F₀ : Fr h₀ L s.heap m)
    (hclos : closureFor scope env = pure cl) (hcell : ∀ y ∈ scope.names, y.2 ≠ .cell) (hkind : scope.kind = .function)
    (hnames : ∀ y ∈ scope.names, y.2 = .local → scope.names.lookup y.1 = some .local) (hx : scope.names.lookup x = some .local)
    (h : wpAny (model prog w) A (eval iter env) (fun xv s₁ => CompGo prog w A h₀ L m env elt x scope cl (fun s₂ => FinE h₀ L m s₂ Q) E xv s₁) E s)
    (hs : ∀ x, foldedSetIterable iter env x = pure x := by intro _; rfl) :
    wpAny (model prog w) A (eval (.ListComp elt [⟨.Name x px, iter, [], 0⟩] scope pos) env) Q E s := by
  rw [eval_ListComp]
  refine wpAny_comprehension_free (use := none) rfl hs hclos hkind hnames (wpAny_mono h (fun xv s₁ h₁ => ?_) fun _ _ e => e)
  refine wpAny_mono h₁ (fun it s₂ h₂ => ?_) fun _ _ e => e
  obtain ⟨I, fp, n, P, St, S, news, rfl, W, hsz, hIo, hSt, hst, hfp, F, N, hIL, hI₀, off, hS, R⟩ := h₂
  refine block_U W hsz hIo hSt hcell hkind hx hst hfp F N hIL hI₀ off hS R ?_
  intro D C h tk m' ys news' F' N' o1 hn hC₀ hD₀ hCL hDL hCD offC fin
  refine ⟨m', hn, fun h'' hs'' => fin D h'' tk (F'.change hs'' hCL hC₀) (fun p hp => ?_) o1⟩
  refine ⟨hs''.extBut _ _ ?_ (N' p hp).1, (N' p hp).2⟩
  rcases List.mem_cons.mp hp with rfl | hp
  · exact Ne.symm hCD
  · exact offC p hp

theorem Assign_ListComp_G {Q : Flow → Shared → Prop} (_F₀ : Fr h₀ L s.heap m) (hLe : env.locals = L)
    (hsw : swapsWith (.ListComp elt [⟨.Name x px, iter, [], 0⟩] scope pos) (some (.Name y py)) spos.line env = pure true)
    (hclos : closureFor scope env = pure cl) (hcell : ∀ z ∈ scope.names, z.2 ≠ .cell) (hkind : scope.kind = .function)
    (hnames : ∀ z ∈ scope.names, z.2 = .local → scope.names.lookup z.1 = some .local) (hx : scope.names.lookup x = some .local)
    (hy : env.kindOf y = some .local) (hp : (env.scope.kind == .class || (env.scope.kind == .module && env.locals != env.globals)) = false)
    (h : wpAny (model prog w) A (eval iter env) (fun xv s₁ => CompGo prog w A h₀ L m env elt x scope cl (fun s₂ => FinA h₀ L m s₂ y Q) E xv s₁) E s)
    (hs : ∀ x, foldedSetIterable iter env x = pure x := by intro _; rfl) :
    wpAny (model prog w) A (exec (.Assign [.Name y py] (.ListComp elt [⟨.Name x px, iter, [], 0⟩] scope pos) spos) env) Q E s := by
  subst hLe
  rw [exec_Assign_Name_used _ _ _ _ hsw]
  refine wpAny_bind (wpAny_standAt (wpAny_bind ?_))
  show wpAny _ A (do let _ ← comprehension (.ListComp elt [⟨.Name x px, iter, [], 0⟩] scope pos) scope env _ (newList []) false (eval iter env) (some (assign (.Name y py) env))) _ _ s
  refine wpAny_bind (wpAny_mono (wpAny_comprehension_free (use := some (assign (.Name y py) env)) (Q := fun _ s' => Q .next s') rfl hs hclos hkind hnames
    (wpAny_mono h (fun xv s₁ h₁ => ?_) fun _ _ e => e)) (fun _ s' hq => wpAny_pure (wpAny_pure hq)) fun _ _ e => e)
  refine wpAny_mono h₁ (fun it s₂ h₂ => ?_) fun _ _ e => e
  obtain ⟨I, fp, n, P, St, S, news, rfl, W, hsz, hIo, hSt, hst, hfp, F, N, hIL, hI₀, off, hS, R⟩ := h₂
  refine block_U W hsz hIo hSt hcell hkind hx hst hfp F N hIL hI₀ off hS R ?_
  intro D C h' tk m' ys news' F' N' o1 hn hC₀ hD₀ hCL hDL hCD offC fin
  show wpAny _ A (assign (.Name y py) env (.ref D)) _ _ _
  refine wpAny_assign_Name (wpAny_storeName_local hy F'.ns (fun h₂ hn₂ hs₂ => ?_) hp)
  have hL₀ : h₀.get? env.locals = none := Heap.get?_none_of_le F'.above
  have F₂ : Fr h₀ env.locals h₂ (fun z => if z = y then some (.ref D) else m z) := ⟨hn₂, fun b o e => hs₂.extBut b o (fun q => by rw [q, hL₀] at e; cases e) (F'.keep b o e), F'.above⟩
  refine ⟨m', hn.sameBut hs₂ hCL, fun h'' hs'' => fin D h'' _ (F₂.change hs'' hCL hC₀) (fun p hp => ?_) o1⟩
  have z : h₂.get? p.1 = some p.2 := hs₂.extBut _ _ (N' p hp).2.1 (N' p hp).1
  refine ⟨hs''.extBut _ _ ?_ z, (N' p hp).2⟩
  rcases List.mem_cons.mp hp with rfl | hp
  · exact Ne.symm hCD
  · exact offC p hp

variable {Fin : Shared → List Value → List (Addr × Obj) → Prop} {news : List (Addr × Obj)} {s₁ : Shared}
theorem comp_listB {ax : Addr} {its : Array Value} (hh : A.handled = none) (F : Fr h₀ L s₁.heap m) (N : News h₀ L s₁.heap news) (hl : SrcAt h₀ ax its news) (hsz : its.size ≤ sizeLine)
    (h : ∀ g, CompRest prog w A h₀ L m env elt x scope cl { s₁ with heap := g } (SrcAt h₀ ax its) (fun i v => its[i]? = some v) (Fin { s₁ with heap := g }) its.size 0 [] news) :
    CompGo prog w A h₀ L m env elt x scope cl Fin E (.ref ax) s₁ := by
  have hl' := hl.list F.keep N
  have hlt : ax < s₁.heap.objs.size := by obtain ⟨_, e, _⟩ := hl'; exact Heap.lt_size e
  refine wpAny_pyIter_list hl' ?_
  have up : ∀ b o, s₁.heap.get? b = some o → (s₁.heap.push { cls := .type "list_iterator", data := .fields #[.ref ax, .int 0 0] }).get? b = some o := fun b o e => Heap.get?_push_of_some _ e
  refine ⟨_, _, its.size, _, _, SrcAt h₀ ax its, news, rfl, Walks.list hh s₁.heap.objs.size ax (Nat.ne_of_lt hlt) its, hsz, (fun i h st => by obtain ⟨o, e, _⟩ := st.1; exact ⟨o, e⟩), list_st, ⟨⟨_, Heap.get?_push_size _ rfl, rfl, rfl⟩, hl'.push _⟩, (fun b hb => ?_),
      (F.keeps up), (N.grown up), (Nat.ne_of_lt F.ns.lt), (next_is_new F), (fun p hp => Nat.ne_of_lt (Heap.lt_size (N p hp).1)), hl, h _⟩
  show b < (s₁.heap.push _).objs.size
  rw [Heap.size_push]
  rcases List.mem_cons.mp hb with rfl | hb
  · exact Nat.lt_succ_self _
  · rw [List.mem_singleton.mp hb]; exact Nat.lt_succ_of_lt hlt

theorem comp_range {r : Addr} {a b c : Int} {t u v : Tok} {n : Nat} (hh : A.handled = none) (F : Fr h₀ L s₁.heap m) (N : News h₀ L s₁.heap news) (hr : IsRange s₁.heap r a b c t u v) (hsm : Builtin.Range.small a b c = true) (hn : Builtin.Range.rangeSize a b c = ((n : Nat) : Int)) (hsz : n ≤ sizeLine)
    (h : ∀ g, CompRest prog w A h₀ L m env elt x scope cl { s₁ with heap := g } (fun _ => True) (fun i v => i < n ∧ ∃ t, v = .int (a + (i : Int) * c) t) (Fin { s₁ with heap := g }) n 0 [] news) :
    CompGo prog w A h₀ L m env elt x scope cl Fin E (.ref r) s₁ := by
  refine wpAny_pyIter_range hr hsm ?_
  have up : ∀ b' o, s₁.heap.get? b' = some o → (s₁.heap.push { cls := .type "range_iterator", data := .fields #[rawInt a, rawInt (Builtin.Range.rangeSize a b c), rawInt c] }).get? b' = some o := fun b o e => Heap.get?_push_of_some _ e
  refine ⟨_, _, n, _, _, (fun _ => True), news, rfl, (Walks.range hh s₁.heap.objs.size a c n).bound, hsz, (fun i h st => ⟨_, st⟩), ?_, (by show IsRangeIter _ _ _ _ _; rw [hn]; simpa using Heap.get?_push_size _ rfl), (fun b hb => ?_),
      (F.keeps up), (N.grown up), (Nat.ne_of_lt F.ns.lt), (next_is_new F), (fun p hp => Nat.ne_of_lt (Heap.lt_size (N p hp).1)), trivial, h _⟩
  · intro i h h' o nw st e e' _ _ _
    have st' : h.get? _ = some _ := st
    show h'.get? _ = some _
    rw [e', ← e]; exact st'
  · rw [List.mem_singleton.mp hb]
    show s₁.heap.objs.size < (s₁.heap.push _).objs.size
    rw [Heap.size_push]; exact Nat.lt_succ_self _

theorem comp_bytes {b : Array UInt8} {tb : Tok} (hh : A.handled = none) (F : Fr h₀ L s₁.heap m) (N : News h₀ L s₁.heap news) (hsz : b.size ≤ sizeLine)
    (h : ∀ g, CompRest prog w A h₀ L m env elt x scope cl { s₁ with heap := g } (fun _ => True) (fun i v => ∃ (c : UInt8) (u : Tok), b[i]? = some c ∧ v = .int c.toNat u) (Fin { s₁ with heap := g }) b.size 0 [] news) :
    CompGo prog w A h₀ L m env elt x scope cl Fin E (.bytes b tb) s₁ := by
  refine KBw.pyIter_bytes ?_
  have up : ∀ a o, s₁.heap.get? a = some o → (s₁.heap.push { cls := .type "bytes_iterator", data := .fields #[.bytes b tb, .int 0 0] }).get? a = some o := fun a o e => Heap.get?_push_of_some _ e
  refine ⟨_, _, b.size, _, _, (fun _ => True), news, rfl, KBw.walks (prog := prog) (w := w) hh s₁.heap.objs.size b tb, hsz, (fun i h st => by obtain ⟨o, e, _⟩ := st; exact ⟨o, e⟩), ?_, ⟨_, Heap.get?_push_size _ rfl, rfl, rfl⟩, (fun b hb => ?_),
      (F.keeps up), (N.grown up), (Nat.ne_of_lt F.ns.lt), (next_is_new F), (fun p hp => Nat.ne_of_lt (Heap.lt_size (N p hp).1)), trivial, h _⟩
  · intro i h h' o nw st e e' _ _ _
    obtain ⟨o', q, r⟩ := st
    rw [e] at q; cases q
    exact ⟨o, e', r⟩
  · rw [List.mem_singleton.mp hb]
    show s₁.heap.objs.size < (s₁.heap.push _).objs.size
    rw [Heap.size_push]; exact Nat.lt_succ_self _

/-- the elements one by one: what each hands back, the ledger as it was -/
theorem comp_each {S : List (Addr × Obj) → Prop} {P : Nat → Value → Prop} {Fi : List Value → List (Addr × Obj) → Prop} {n : Nat} (g : Nat → Value → Prop)
    (turn : ∀ i v I oI C oC D m₂ ys h tk (E' : Value → Shared → Prop), i < n → P i v → NsObj oC m₂ → m₂ x = some v → Fr h₀ L h m → News h₀ L h ((I, oI) :: (C, oC) :: (D, lst ys) :: news) → Off3 I C D news → ((@Ne Nat I C) ∧ (@Ne Nat I D) ∧ (@Ne Nat C D)) →
      wpAny (model prog w) A (eval elt (compEnvC scope cl C env)) (CompEnd h₀ L m { s with heap := h, toks := tk } I oI C oC D (lst ys) (fun _ => True) (fun y news' => news' = news ∧ g i y)) E' { s with heap := h, toks := tk })
    (hS : S news) (fin : ∀ ys, ys.length = n → (∀ i y, ys[i]? = some y → g i y) → Fi ys news) : CompRest prog w A h₀ L m env elt x scope cl s S P Fi n 0 [] news := by
  have key : ∀ (j i : Nat) (ys : List Value), i + j = n → ys.length = i → (∀ i y, ys[i]? = some y → g i y) → CompRest prog w A h₀ L m env elt x scope cl s S P Fi j i ys news := by
    intro j
    induction j with
    | zero =>
      intro i ys hi hl hy
      exact CompRest.zero (fin ys (by omega) hy)
    | succ j ih =>
      intro i ys hi hl hy
      refine CompRest.succ ?_
      intro v I oI C oC D m₂ h tk E' hv hC hx F N off ne
      refine wpAny_mono (turn i v I oI C oC D m₂ ys h tk E' (by omega) hv hC hx F N off ne) (fun y s₂ hq => ?_) fun _ _ e => e
      obtain ⟨h', tk', nw, e, F', N', off', _, rfl, hg⟩ := hq
      refine ⟨h', tk', nw, e, F', N', off', hS, ih (i + 1) _ (by omega) (by simp [hl]) ?_⟩
      intro i' y' h'
      rw [List.getElem?_append] at h'
      split at h'
      · exact hy _ _ h'
      · have : i' - ys.length = 0 := by
          cases hc : i' - ys.length with
          | zero => rfl
          | succ k => rw [hc] at h'; simp at h'
        rw [this] at h'
        simp at h'
        subst h'
        have e2 : i' = i := by omega
        rw [e2]; exact hg
  exact key n 0 [] (by omega) rfl (by simp)
end

theorem intsAre_of {f : Nat → Int} : ∀ {n : Nat} {ys : List Value}, ys.length = n → (∀ (i : Nat) (y : Value), ys[i]? = some y → ∃ t, y = Value.int (f i) t) → IntsAre ys ((List.range n).map f) := by
  intro n
  induction n with
  | zero => intro ys hl _; have : ys = [] := List.eq_nil_of_length_eq_zero hl; subst this; exact .nil
  | succ n ih =>
    intro ys hl hy
    have hne : ys ≠ [] := by intro e; rw [e] at hl; simp at hl
    obtain ⟨zs, z, e⟩ : ∃ zs z, ys = zs ++ [z] := ⟨_, _, (List.dropLast_concat_getLast hne).symm⟩
    subst e
    have hd : zs.length = n := by simpa using hl
    obtain ⟨t, ht⟩ := hy n z (by simp [← hd])
    rw [List.range_succ, List.map_append, ht]
    refine IntsAre.append (ih hd fun i y h => hy i y ?_) (.cons _ _ .nil)
    have hi : i < zs.length := by
      rcases Nat.lt_or_ge i zs.length with h1 | h1
      · exact h1
      · rw [List.getElem?_eq_none h1] at h; cases h
    rw [List.getElem?_append_left hi]; exact h

theorem small_step {b c : Int} (hb : 0 ≤ b) (hb' : b < 2 ^ 40) (hc : 1 ≤ c) (hc' : c < 2 ^ 20) : Builtin.Range.small 0 b c = true := by
  have h1 : (b + c - 1) / c ≤ b + c - 1 := Int.ediv_le_self _ (by omega)
  have h2 : 0 ≤ (b + c - 1) / c := Int.ediv_nonneg (by omega) (by omega)
  have h3 : (b + c - 1) / c * c ≤ b + c - 1 := Int.ediv_mul_le _ (by omega)
  unfold Builtin.Range.small
  rw [rangeSize_pos hc hb]
  simp only [Builtin.Range.rangeFitsLong, Bool.and_eq_true, Bool.or_eq_true, decide_eq_true_eq, beq_iff_eq]
  have : (c > 0) := by omega
  simp only [this, if_true]
  refine ⟨⟨⟨?_, ?_⟩, ?_⟩, ?_⟩ <;> first | omega | (refine Or.inr ?_; rw [Bool.and_eq_true, decide_eq_true_eq, decide_eq_true_eq]; omega)

theorem clip_slice {ks : List Int} {k c : Int} {i m : Nat} (hk : k = (i : Int)) (hc : c = (m : Int)) : List.take (clipAt ks.length (k + c) - clipAt ks.length k) (List.drop (clipAt ks.length k) ks) = (ks.drop i).take m := by
  subst hk; subst hc
  rw [show ((i : Int) + (m : Int)) = ((i + m : Nat) : Int) by omega, clipAt_nat, clipAt_nat]
  rcases Nat.lt_or_ge i ks.length with h | h
  · rw [Nat.min_eq_left (Nat.le_of_lt h)]
    rcases Nat.lt_or_ge (i + m) ks.length with h2 | h2
    · rw [Nat.min_eq_left (Nat.le_of_lt h2), Nat.add_sub_cancel_left]
    · rw [Nat.min_eq_right h2, List.take_of_length_le (by simp), List.take_of_length_le (by simp; omega)]
  · rw [Nat.min_eq_right h, List.drop_of_length_le (Nat.le_refl _), List.drop_of_length_le h]; simp

section
variable {M : Model} {A : Around} {E : Value → Shared → Prop} {s : Shared} {env : Env}
theorem on_execs_cons {st rest} {Q : Flow → Shared → Prop} (h : wpOn M A (exec st env) (fun f s' => match f with | .next => wpOn M A (execs rest env) Q E s' | f => Q f s') E s) : wpOn M A (execs (st :: rest) env) Q E s := by
  rw [execs_cons]
  refine on_bind (on_mono h (fun f s' h' => ?_) fun _ _ x => x)
  cases f <;> first | exact h' | exact on_pure h'
theorem on_execs_any {st rest} {Q : Flow → Shared → Prop} (h : wpAny M A (exec st env) (fun f s' => match f with | .next => wpOn M A (execs rest env) Q E s' | f => Q f s') E s) : wpOn M A (execs (st :: rest) env) Q E s := on_execs_cons (on_any h)
theorem on_execs_nil {Q : Flow → Shared → Prop} (h : Q .next s) : wpOn M A (execs [] env) Q E s := on_pure h
theorem on_If {test body orelse pos} {Q : Flow → Shared → Prop}
    (h : wpAny M A (isTrue test env (eval test env)) (fun b s₂ => if b = true then wpOn M A (execs body env) Q E s₂ else wpOn M A (execs orelse env) Q E s₂) E s) : wpOn M A (exec (.If test body orelse pos) env) Q E s := by
  rw [exec_If]
  refine on_bind (on_standAt (on_then (wpAny_mono h (fun b s₂ h₂ => ?_) fun _ _ x => x)))
  cases b <;> exact h₂
theorem on_Return {e pos} {Q : Flow → Shared → Prop} (h : wpOn M A (eval e env) (fun v => Q (.ret v)) E s) : wpOn M A (exec (.Return (some e) pos) env) Q E s := by
  rw [exec_Return_some]
  exact on_bind (on_standAt (on_bind (on_mono h (fun _ _ x => on_pure x) fun _ _ x => x)))
theorem on_Assign {x pos' value pos} {Q : Flow → Shared → Prop} (h : wpOn M A (eval value env) (fun v s₁ => wpAny M A (storeName env x v) (fun _ => Q .next) E s₁) E s)
    (hs : swapsWith value (some (.Name x pos')) pos.line env = pure false := by rfl) : wpOn M A (exec (.Assign [.Name x pos'] value pos) env) Q E s := by
  rw [exec_Assign_Name env x pos' value pos hs]
  exact on_bind (on_standAt (on_bind (on_mono h (fun v s₁ h₁ => on_bind (on_standAt (on_then (wpAny_bindName (wpAny_mono h₁ (fun _ _ x => on_pure x) fun _ _ x => x))))) fun _ _ x => x)))
theorem on_Expr {e pos} {Q : Flow → Shared → Prop} (h : wpOn M A (eval e env) (fun v s' => v = .none ∧ Q .next s') E s)
    (hi : interactive env = false := by rfl) (hs : swapsWith e none pos.line env = pure false := by rfl) : wpOn M A (exec (.Expr e pos) env) Q E s := by
  rw [exec_Expr env e pos hi hs]
  refine on_bind (on_standAt (on_bind (on_mono h (fun v s' h' => ?_) fun _ _ x => x)))
  obtain ⟨rfl, h'⟩ := h'
  rw [dropValue_plain (fun a e => by cases e)]
  exact on_pure h'
theorem on_spliced_nil {Q : List Value → Shared → Prop} (h : Q [] s) : wpOn M A (spliced []) Q E s := on_pure h
theorem on_spliced_cons {x : Sem Value} {rest : List (Bool × Sem Value)} {Q : List Value → Shared → Prop}
    (h : wpOn M A x (fun v s₁ => wpOn M A (spliced rest) (fun vs s₂ => Q (v :: vs) s₂) E s₁) E s) : wpOn M A (spliced ((false, x) :: rest)) Q E s := by
  rw [spliced]
  refine on_bind (on_mono h (fun v s₁ h₁ => ?_) fun _ _ x => x)
  simp only [Bool.false_eq_true, if_false]
  exact on_bind (on_pure (on_bind (on_holding (on_mono h₁ (fun vs s₂ h₂ => on_pure h₂) fun _ _ x => x))))
theorem on_evalArgs {f : Value} {x : Sem Value} {rest : List (Bool × Sem Value)} {Q : Args → Shared → Prop}
    (h : wpOn M A (spliced ((false, x) :: rest)) (fun vs s' => Q ⟨vs, []⟩ s') E s) : wpOn M A (evalArgs f true ((false, x) :: rest) []) Q E s := by
  unfold evalArgs
  show wpOn M A (spliced ((false, x) :: rest) >>= _) Q E s
  exact on_bind (on_mono h (fun vs s' h' => on_holding (on_bind (on_pure (on_bind (on_pure (on_pure h')))))) fun _ _ x => x)
theorem on_evalArgs0 {f : Value} {Q : Args → Shared → Prop} (h : Q ⟨[], []⟩ s) : wpOn M A (evalArgs f true [] []) Q E s := on_any (evalArgs_nil3 h)
theorem on_keep {α : Type} {vs : List Value} {m : Sem α} {Q : α → Shared → Prop} (h : wpOn M A m Q E s) : wpOn M A (m.keep vs) Q E s := fun Γ p hΓ q => by rw [Sem.wp_keep]; exact h Γ p hΓ q
theorem on_rest {t : Sem Value} {Q : Value → Shared → Prop} (h : wpOn M A t Q E s) : wpOn M A (t >>= fun r => holding [r] point >>= fun _ => pure r) Q E s :=
  on_bind (on_mono h (fun _ _ hr => on_bind (on_holding (on_point (on_pure hr)))) fun _ _ x => x)
/-- a call of a built-in or of a type -/
theorem on_callWith_m {pos : Pos} {f : Value} {first : List Value} {args : List (Bool × Sem Value)} {Q : Value → Shared → Prop} (hf : keeperOf f = pure .machine) (hplain : args.any (·.1) = false)
    (h : wpOn M A (evalArgs f true args []) (fun a s₁ => wpOn M A (call f (first ++ a.pos) a.kw) Q E s₁) E s) : wpOn M A (callWith pos f first args []) Q E s := by
  unfold callWith
  refine on_bind (on_holding (on_mono h (fun a s₁ h₁ => on_bind (on_standAt ?_)) fun _ _ x => x))
  simp only [hplain, List.any_nil, Bool.or_false, hf]
  exact on_bind (on_pure (on_rest h₁))
/-- a call of a def -/
theorem on_callWith_f {pos : Pos} {a : Addr} {o : Obj} {fd : FuncData} {first : List Value} {args : List (Bool × Sem Value)} {Q : Value → Shared → Prop} (hd : o.data = .func fd) (hplain : args.any (·.1) = false)
    (h : wpOn M A (evalArgs (.ref a) true args []) (fun x s₁ => s₁.heap.get? a = some o ∧ wpOn M A (call (.ref a) (first ++ x.pos) x.kw) Q E s₁) E s) : wpOn M A (callWith pos (.ref a) first args []) Q E s := by
  unfold callWith
  refine on_bind (on_holding (on_mono h (fun x s₁ h₁ => on_bind (on_standAt ?_)) fun _ _ x => x))
  simp only [hplain, List.any_nil, Bool.or_false]
  have k : wpAny M A (keeperOf (.ref a)) (fun k s' => k = .frame ∧ s' = s₁) E s₁ := by
    unfold keeperOf
    refine wpAny_bind (wpAny_load h₁.1 ?_)
    rw [hd]; exact wpAny_pure ⟨rfl, rfl⟩
  refine on_then (wpAny_mono k (fun k s' hk => ?_) fun _ _ x => x)
  obtain ⟨rfl, rfl⟩ := hk
  dsimp only
  split
  · exact on_rest h₁.2
  · refine on_rest ?_
    unfold callMarked
    exact on_keep h₁.2
theorem on_Call {f : Value} {x : Str} {px pos : Pos} {args : List Expr} {Q : Value → Shared → Prop}
    (h : wpAny M A (eval (.Name x px) env) (fun f s₁ => wpOn M A (callWith pos f [] (backTo pos (starEach args env)) []) Q E s₁) E s) :
    wpOn M A (eval (.Call (.Name x px) args [] pos) env) Q E s := on_then (f := fun f => callWith pos f [] (backTo pos (starEach args env)) []) h
theorem on_method {o : Expr} {name : Str} {apos pos : Pos} {args : List Expr} {pl : Sem Bool} {Q : Value → Shared → Prop}
    (h : wpAny M A (eval o env) (fun ov s₁ => wpAny M A (getMethod ov name pl) (fun fx s₂ => wpOn M A (callWith pos fx.1 fx.2 (backTo pos (starEach args env)) []) Q E s₂) E s₁) E s)
    (he : eval (.Call (.Attribute o name apos) args [] pos) env = (do
      let ov ← eval o env
      standAt apos.atName
      let (f, first) ← holding [ov] (getMethod ov name pl)
      callWith pos f first (backTo pos (starEach args env)) []) := by rfl) :
    wpOn M A (eval (.Call (.Attribute o name apos) args [] pos) env) Q E s := by
  rw [he]
  exact on_then (wpAny_mono h (fun ov s₁ h₁ => on_bind (on_standAt (on_then (wpAny_holding (wpAny_mono h₁ (fun fx s₂ h₂ => h₂) fun _ _ x => x))))) fun _ _ x => x)
end

/-- nothing is raised -/
abbrev noE : Value → Shared → Prop := fun _ _ => False
section
variable {prog : Program} {w : World} {A : Around} {s : Shared} {env : Env}
theorem on_runOwn {M : Model} {c : Code} {Q : Flow → Shared → Prop} (hc : codeOn M (A.mark none) c (fun r s' => match r with | .ok f => Q f s' | .error _ => False) s) (hq : calmC c = true) : wpOn M A (runOwn c env none) Q noE s := by
  unfold runOwn
  exact on_onRaise (on_run (codeOn_mono hc fun r s' x => by cases r with | ok f => exact x | error e => exact x.elim) hq)
theorem on_noted {α : Type} {t : Sem α} {k : Value → Sem Unit} {Q : α → Shared → Prop} {E : Value → Shared → Prop} (h : wpOn (model prog w) A t Q noE s) : wpOn (model prog w) A (t.onRaise k) Q E s :=
  on_onRaise (on_mono h (fun _ _ x => x) fun _ _ x => x.elim)
theorem on_While {test : Expr} {body : List Stmt} {pos : Pos} {Q : Flow → Shared → Prop} (I : Nat → Shared → Prop)
    (turn : ∀ n s, I n s → wpAny (model prog w) A (isTrue test env (eval test env)) (fun b s₂ => if b = true then wpOn (model prog w) A (execs body env)
      (fun f s₃ => match f with | .ret v => Q (.ret v) s₃ | .brk => Q .next s₃ | _ => ∃ m, m < n ∧ I m s₃) noE s₂ else Q .next s₂) noE s)
    (n : Nat) (h : I n s) : wpOn (model prog w) A (exec (.While test body [] pos) env) Q noE s := by
  rw [exec_While]
  refine on_bind (on_standAt (on_runOwn (codeOn_turns rfl rfl I (fun n s' hi => ?_) n h) rfl))
  show wpOn _ A ((whileTurn test body [] env).onRaise (fun x => do noteFrame x env; theTreesLotGoes x)) _ _ s'
  refine on_noted ?_
  unfold whileTurn
  refine on_then (wpAny_mono (turn n s' hi) (fun b s₂ h₂ => ?_) fun _ _ x => x)
  cases b with
  | false => exact on_bind (on_execs_nil (on_pure h₂))
  | true =>
    refine on_bind (on_mono h₂ (fun f s₃ h₃ => ?_) fun _ _ x => x)
    cases f with
    | next => exact on_pure (.inl ⟨rfl, h₃⟩)
    | cont => exact on_pure (.inl ⟨rfl, h₃⟩)
    | brk => exact on_pure h₃
    | ret v => exact on_pure h₃
theorem on_For {x : Str} {px : Pos} {iter : Expr} {pos : Pos} {body : List Stmt} {Q : Flow → Shared → Prop} (I : Value → Nat → Shared → Prop)
    (turn : ∀ it n s, I it n s → wpAny (model prog w) A (pyNext it) (fun r s₂ => match r with
      | none => Q .next s₂
      | some v => wpAny (model prog w) A (storeName env x v) (fun _ s₃ => wpOn (model prog w) A (execs body env) (fun f s₄ => match f with | .ret v => Q (.ret v) s₄ | .brk => Q .next s₄ | _ => ∃ m, m < n ∧ I it m s₄) noE s₃) noE s₂) noE s)
    (h : wpAny (model prog w) A (eval iter env) (fun v s₁ => wpAny (model prog w) A (pyIter v) (fun it s₂ => ∃ n, I it n s₂) noE s₁) noE s)
    (hs : ∀ x, foldedSetIterable iter env x = pure x := by intro _; rfl) (ht : ∀ it v, letOwnedTupleGo (.Name x px) it v = pure () := by intro _ _; rfl) :
    wpOn (model prog w) A (exec (.For (.Name x px) iter body [] pos) env) Q noE s := by
  rw [exec_For]
  refine on_bind (on_standAt (on_then (wpAny_mono h (fun v s₁ h₁ => ?_) fun _ _ x => x)))
  refine on_then (wpAny_of_eq (hs v) (on_bind (on_standAt (on_then (wpAny_holding (wpAny_mono h₁ (fun it s₂ h₂ => ?_) fun _ _ x => x))))))
  obtain ⟨n, h₂⟩ := h₂
  refine on_runOwn (codeOn_turns rfl rfl (I it) (fun n s' hi => ?_) n h₂) rfl
  show wpOn _ A ((forTurn (.Name x px) it body [] env).onRaise (fun x => do noteFrame x env; theTreesLotGoes x)) _ _ s'
  refine on_noted ?_
  unfold forTurn
  refine on_bind (on_standAt (on_bind (on_noted (on_any (wpAny_mono (turn it n s' hi) (fun r s₃ h₃ => ?_) fun _ _ x => x)))))
  cases r with
  | none => exact on_pure (.inr ⟨rfl, rfl, codeOn_any (codeAny_block (wpAny_execs_nil h₃))⟩)
  | some v =>
    refine on_then (wpAny_of_eq (ht it v) (on_then (wpAny_assign_Name (wpAny_mono h₃ (fun _ s₄ h₄ => on_bind (on_mono h₄ (fun f s₅ h₅ => ?_) fun _ _ x => x)) fun _ _ x => x))))
    cases f with
    | next => exact on_pure (.inl ⟨rfl, h₅⟩)
    | cont => exact on_pure (.inl ⟨rfl, h₅⟩)
    | brk => exact on_pure h₅
    | ret v => exact on_pure h₅
end

section
variable {prog : Program} {w : World} {A : Around} {s : Shared}
theorem codeOn_func {body : List Stmt} {env : Env} {R : Result → Shared → Prop} (h : wpOn (model prog w) (A.deeper env) (execs body env) (fun f s' => R (.ok (.ret (match f with | .ret v => v | _ => .none))) s') noE s) :
    codeOn (model prog w) A (.func body env) R s := by
  refine codeOn_tree ?_
  show wpOn _ (A.deeper env) (do point; match ← (execs body env).onRaise (leaving env) with | .ret v => ret v | _ => ret .none) _ _ s
  refine on_bind (on_point (on_bind (on_noted (on_mono h (fun f s' h' => ?_) fun _ _ x => x))))
  cases f <;> exact on_pure h'
theorem codeOn_def {R : Result → Shared → Prop} {a : Addr} {o : Obj} {fd : FuncData} {body : List Stmt} {args : Args} {binds : List (Str × Value)}
    (hroom : A.depth < recursionLimit) (ho : s.heap.get? a = some o) (hdata : o.data = .func fd) (hlim : s.heap.NoLimit) (hcd : s.heap.CodeRec fd.code fd.qualname)
    (hbody : fd.body = .stmts body) (hbind : BindsTo s fd args binds)
    (hcell : ∀ x ∈ fd.scope.names, x.2 ≠ .cell) (hloc : ∀ x ∈ binds, fd.scope.names.lookup x.1 = some .local)
    (hco : fd.scope.isCoroutine = false) (hgen : fd.scope.isGenerator = false) (hk : fd.scope.kind = .function)
    (h : ∀ h₀, h₀.Ns s.heap.objs.size (fun x => binds.reverse.lookup x) → (∀ b o, s.heap.get? b = some o → h₀.get? b = some o) →
      wpOn (model prog w) (A.deeper (callEnv fd s.heap.objs.size a)) (execs body (callEnv fd s.heap.objs.size a)) (fun f s' => R (.ok (.ret (match f with | .ret v => v | _ => .none))) s') noE
        { s with heap := h₀, toks := s.toks + binds.length }) :
    codeOn (model prog w) A (.call (.ref a) args) R s := by
  refine codeOn_tree ?_
  show wpOn _ A.in1 (callAny (.ref a) args) _ _ s
  simp only [callAny]
  refine on_then (wpAny_load ho ?_)
  obtain ⟨c, oc, vs, tq, hc, hoc, hdc, hq⟩ := hcd
  simp only [hdata, callFunction, hco, hgen, hbody, hc]
  refine on_then (m := field (.ref c) 1) (wpAny_field hoc hdc hq (on_bind (on_pure (on_then (hbind _ _ _ _ ?_)))))
  refine on_then (wpAny_newFunctionEnv hcell hloc (fun h₀ hns₀ hsb₀ => ?_) hk)
  refine on_then (wpAny_enterFrame (hlim.fresh _ hsb₀) hroom (on_pure ⟨rfl, rfl, ?_⟩))
  have fin := codeOn_func (R := R) (h h₀ hns₀ fun b o e => hsb₀.extBut b o (Nat.ne_of_lt (Heap.lt_size e)) (Heap.get?_push_of_some _ e))
  unfold callEnv at fin
  rw [hc] at fin
  exact fin
end

namespace BA
theorem mro : mroOf (.type "bytearray") = pure [.type "bytearray", .type "object"] := by rw [mroOf_type]; kernel_rfl
theorem lookup_new : typeLookup (.type "bytearray") "__new__" = pure (some (.builtin "bytearray.__new__")) := by rw [typeLookup_type, builtinLookup_eq_fast]; kernel_rfl
theorem slot_init : Slot "bytearray" "__init__" "bytearray.__init__" :=
  .of (owner := "bytearray") (n := "__init__") (by rw [typeLookup_type, builtinLookup_eq_fast]; kernel_rfl) (by decide +kernel) (by decide +kernel) (by decide +kernel) (by first | exact .inl (by decide +kernel) | exact .inr (by decide +kernel)) (by rw [isSubtype_type]; kernel_rfl)
theorem slot_append : Slot "bytearray" "append" "bytearray.append" :=
  .of (owner := "bytearray") (n := "append") (by rw [typeLookup_type, builtinLookup_eq_fast]; kernel_rfl) (by decide +kernel) (by decide +kernel) (by decide +kernel) (by first | exact .inl (by decide +kernel) | exact .inr (by decide +kernel)) (by rw [isSubtype_type]; kernel_rfl)
theorem slot_extend : Slot "bytearray" "extend" "bytearray.extend" :=
  .of (owner := "bytearray") (n := "extend") (by rw [typeLookup_type, builtinLookup_eq_fast]; kernel_rfl) (by decide +kernel) (by decide +kernel) (by decide +kernel) (by first | exact .inl (by decide +kernel) | exact .inr (by decide +kernel)) (by rw [isSubtype_type]; kernel_rfl)
theorem made : Bind.madeBy (.type "bytearray") = pure (some "bytearray.__new__") := madeBy_type mro lookup_new (by decide +kernel)
theorem sub_self : isSubtype (.type "bytearray") (.type "bytearray") = pure true := by rw [isSubtype_type]; kernel_rfl
theorem typeCall : checkTypeCall "bytearray" ⟨[], []⟩ = pure () := by kernel_rfl
theorem newCall : checkBuiltinCall "bytearray.__new__" ⟨[.type "bytearray"], []⟩ = pure () := by kernel_rfl
theorem entry_new : entryFor table "bytearray.__new__" = some Builtin.«list.__new__» :=
  entryFor_alias (id' := "list.__new__") (by kernel_rfl) (by first | rfl | decide +kernel | (unfold String.splitOn; simp +decide [String.splitOnAux])) (by decide +kernel) (by kernel_rfl)
theorem entry_init : entryFor table "bytearray.__init__" = some Builtin.«bytearray.__init__» := by first | exact entryFor_of_fast (by kernel_rfl) | exact entryFor_of_tree (by kernel_rfl)
theorem entry_append : entryFor table "bytearray.append" = some Builtin.«bytearray.append» := by first | exact entryFor_of_fast (by kernel_rfl) | exact entryFor_of_tree (by kernel_rfl)
theorem entry_extend : entryFor table "bytearray.extend" = some Builtin.«bytearray.extend» := by first | exact entryFor_of_fast (by kernel_rfl) | exact entryFor_of_tree (by kernel_rfl)
theorem plain_new : plainId "bytearray.__new__" = true := by decide +kernel
theorem args_init (a : Value) : argsOk "bytearray.__init__" ⟨[a], []⟩ := by unfold argsOk; kernel_rfl
theorem args_append (a b : Value) : argsOk "bytearray.append" ⟨[a, b], []⟩ := by unfold argsOk; kernel_rfl
theorem args_extend (a b : Value) : argsOk "bytearray.extend" ⟨[a, b], []⟩ := by unfold argsOk; kernel_rfl
set_option maxRecDepth 1000000 in
set_option maxHeartbeats 4000000 in
theorem owner : ("bytearray.__new__".splitOn ".__new__").headD "" = "bytearray" := by simp +decide [String.splitOn, String.splitOnAux]

section
variable {prog : Program} {w : World} {A : Around} {E : Value → Shared → Prop} {s : Shared}
theorem code_new {Q₁ : Value → Shared → Prop} (h : Q₁ (.ref s.heap.objs.size) { s with heap := s.heap.push { cls := .type "bytearray", data := .bytearray #[] } }) :
    codeAny (model prog w) A (.call (.builtin "bytearray.__new__") ⟨[.type "bytearray"], []⟩) (wants Q₁ E) s := by
  refine codeAny_of_tree ?_
  show wpAny _ A.in1 (do checkBuiltinCall "bytearray.__new__" ⟨[.type "bytearray"], []⟩; again (.builtin "bytearray.__new__" ⟨[.type "bytearray"], []⟩)) _ _ s
  refine wpAny_bind (wpAny_of_eq newCall (wpAny_pure ⟨plainId_quiet plain_new _, codeAny_builtin_stack entry_new rfl fun p st => ?_⟩))
  rw [Around.under_plainId plain_new _]
  have hsub := sub_self
  have hown := owner
  obtain ⟨hp, g, d, tk, os⟩ := s
  simp only [hown]
  wp_walk
  exact h

theorem codeOn_builtin {id : String} {args : Args} {b : Builtin} {R : Result → Shared → Prop} (hb : entryFor table id = some b)
    (h : wpOn (model prog w) (A.under (.builtin id args)) (b args)
      (fun fin s' => match fin with | .done f => R (.ok f) s' | .again c' => c'.quiet = true ∧ calmC c' = true ∧ codeOn (model prog w) A c' R s') (fun e s' => R (.error e) s') s) :
    codeOn (model prog w) A (.builtin id args) R s := by
  refine codeOn_tree ?_
  show wpOn _ _ (match entryFor table id with | some b => b args | none => unsupported ((withoutEnding? id "#data").getD id)) _ _ s
  rw [hb]; exact h
/-- a method of a built-in type -/
theorem on_slot {T : String} {name : Str} {id : String} {b : Builtin} {self : Value} {rest : List Value} {Q : Value → Shared → Prop} (hs : Slot T name id) (hT : s.TypeIs self T) (hb : entryFor table id = some b) (hc : calmC (.builtin id ⟨self :: rest, []⟩) = true) (ha : argsOk id ⟨self :: rest, []⟩)
    (h : wpOn (model prog w) A.in1 (b ⟨self :: rest, []⟩) (fun fin s' => ∃ v, fin = .done (.ret v) ∧ Q v s') E s) : wpOn (model prog w) A (call (.builtin id) (self :: rest)) Q E s := by
  refine on_call (codeOn_tree ?_)
  show wpOn _ A.in1 (do checkBuiltinCall id ⟨self :: rest, []⟩; again (.builtin id ⟨self :: rest, []⟩)) _ _ s
  refine on_then (hs.check _ _ _ _ _ _ _ _ hT ha (on_pure ⟨plainId_quiet hs.plain _, hc, codeOn_builtin hb ?_⟩))
  rw [Around.under_plainId hs.plain _]
  exact on_mono h (fun fin s' h' => by obtain ⟨v, rfl, hv⟩ := h'; exact hv) fun _ _ x => x
theorem on_if_false {α : Type} {M : Model} {c : Bool} {a b : Sem α} {Q : α → Shared → Prop} (hc : c = false) (h : wpOn M A b Q E s) : wpOn M A (if c = true then a else b) Q E s := by subst hc; exact h
theorem on_if_true {α : Type} {M : Model} {c : Bool} {a b : Sem α} {Q : α → Shared → Prop} (hc : c = true) (h : wpOn M A a Q E s) : wpOn M A (if c = true then a else b) Q E s := by subst hc; exact h

theorem calm_builtin (id : String) (args : Args) : calmC (.builtin id args) = !holders.contains id := rfl
theorem on_exported {self : Value} {Q : Bool → Shared → Prop} (h : Q false s) : wpOn (model prog w) A (Builtin.Bytes.exported self) Q E s := by
  unfold Builtin.Bytes.exported
  refine on_stackAny (fun c p hc => ?_) h
  split
  iterate 5 (· rename_i e; cases e; rw [calm_builtin] at hc; exact absurd hc (by decide +kernel))
  · rename_i id v vs kw q _ _ _ _ _ e
    cases e
    have hd : Builtin.Bytes.decodersThatHold.contains id = false := by
      have h1 : holders.contains id = false := by simpa [calmC] using hc
      cases hq : Builtin.Bytes.decodersThatHold.contains id with
      | false => rfl
      | true =>
        have h2 : holders.contains id = true := by
          rw [List.contains_iff_mem] at hq ⊢
          exact List.mem_cons_of_mem _ (List.mem_cons_of_mem _ (List.mem_cons_of_mem _ (List.mem_cons_of_mem _ (List.mem_cons_of_mem _ hq))))
        rw [h1] at h2; cases h2
    rw [hd, Bool.and_false]
  · rfl

theorem on_checkResize {a : Addr} {o : Obj} {b : Array UInt8} {Q : Unit → Shared → Prop} (ho : s.heap.get? a = some o) (hd : o.data = .bytearray b) (h : Q () s) : wpOn (model prog w) A (Builtin.Bytes.checkResize (.ref a)) Q E s := by
  unfold Builtin.Bytes.checkResize
  refine on_bind (on_bind (on_exported ?_))
  refine on_then (wpAny_bind (wpAny_load ho ?_))
  rw [hd]
  refine wpAny_pure ?_
  exact on_pure (on_if_false rfl (on_pure h))
theorem on_write {a : Addr} {b : Array UInt8} {f : Array UInt8 → Array UInt8} {Q : Unit → Shared → Prop} (ho : s.heap.get? a = some { cls := .type "bytearray", data := .bytearray b }) (hz : (f b).size ≤ sizeLine)
    (h : (s.heap.update a (Obj.mapBytearray f)).get? a = some { cls := .type "bytearray", data := .bytearray (f b) } → Q () { s with heap := s.heap.update a (Obj.mapBytearray f) }) : wpAny (model prog w) A (Builtin.Bytes.write (.ref a) f) Q E s := by
  show wpAny _ _ (updateBytearray a f) _ _ _
  unfold updateBytearray
  refine wpAny_bind (wpAny_load ho ?_)
  show wpAny _ _ (update a (Obj.mapBytearray f) >>= fun _ => lookBehind a) _ _ _
  have ho2 : (s.heap.update a (Obj.mapBytearray f)).get? a = some { cls := .type "bytearray", data := .bytearray (f b) } := Heap.get?_update_self (Obj.mapBytearray f) ho rfl
  refine wpAny_bind (wpAny_update ho (wpAny_lookBehind ho2 ?_ (h ho2)))
  show (if (f b).size > sizeLine then some "bytearray:memory" else none) = none
  rw [if_neg (by omega)]

theorem on_append {a : Addr} {b : Array UInt8} {c : Int} {t : Tok} {Q : Value → Shared → Prop} (ho : s.heap.get? a = some { cls := .type "bytearray", data := .bytearray b }) (h0 : 0 ≤ c) (h1 : c < 256) (hz : b.size < sizeLine)
    (h : ∀ h', Heap.SameBut a s.heap h' → h'.get? a = some { cls := .type "bytearray", data := .bytearray (b.push c.toNat.toUInt8) } → Q .none { s with heap := h' }) :
    wpOn (model prog w) A (call (.builtin "bytearray.append") [.ref a, .int c t]) Q noE s := by
  refine on_slot slot_append ⟨_, ho, rfl⟩ entry_append (show (!holders.contains "bytearray.append") = true by decide +kernel) (args_append _ _) ?_
  unfold Builtin.«bytearray.append»
  refine on_then (wpAny_of_eq (a := (.ref a, .int c t)) rfl ?_)
  refine on_then ?_
  unfold Builtin.Bytes.byteValue
  refine wpAny_bind (wpAny_of_eq (rfl : asIndex (.int c t) = pure c) ?_)
  refine bm_if_false (by simp only [Bool.or_eq_false_iff, decide_eq_false_iff_not]; omega) ?_
  refine wpAny_pure (on_bind (on_checkResize ho rfl (on_then (on_write (f := fun x => x.push c.toNat.toUInt8) ho (by simp; omega) fun ho2 => ?_))))
  exact on_pure ⟨_, rfl, h _ (Heap.SameBut.update ..) ho2⟩

end
end BA

namespace BA
theorem rel_ba : typeLookup (.type "bytearray") "__release_buffer__" = pure (some (.builtin "bytearray.__release_buffer__")) := by rw [typeLookup_type, builtinLookup_eq_fast]; kernel_rfl
theorem buf_ba : typeLookup (.type "bytearray") "__buffer__" = pure (some (.builtin "bytearray.__buffer__")) := by rw [typeLookup_type, builtinLookup_eq_fast]; kernel_rfl
theorem rel_bytes : typeLookup (.type "bytes") "__release_buffer__" = pure none := by rw [typeLookup_type, builtinLookup_eq_fast]; kernel_rfl
theorem buf_bytes : typeLookup (.type "bytes") "__buffer__" = pure (some (.builtin "bytes.__buffer__")) := by rw [typeLookup_type, builtinLookup_eq_fast]; kernel_rfl
theorem bytes_ba : typeLookup (.type "bytearray") "__bytes__" = pure none := by rw [typeLookup_type, builtinLookup_eq_fast]; kernel_rfl
theorem index_ba : typeLookup (.type "bytearray") "__index__" = pure none := by rw [typeLookup_type, builtinLookup_eq_fast]; kernel_rfl
theorem sub_bytes : isSubtype (.type "bytes") (.type "bytes") = pure true := by rw [isSubtype_type]; kernel_rfl
section
variable {prog : Program} {w : World} {A : Around} {E : Value → Shared → Prop} {s : Shared}
theorem own_slot {v : Value} {T id : String} {nm : String} {Q : Bool → Shared → Prop} (hT : s.TypeIs v T) (hl : typeLookup (.type T) (nm : Str) = pure (some (.builtin id))) (h1 : (!id.endsWith ("." ++ nm)) = false) (h2 : id.dropRight (nm.length + 1) = T) (h3 : isSubtype (.type T) (.type T) = pure true)
    (h : Q true s) : wpAny (model prog w) A (Builtin.Bytes.slotIsOwn v nm) Q E s := by
  unfold Builtin.Bytes.slotIsOwn
  refine wpAny_bind (wpAny_specialOf hT hl ?_)
  dsimp only
  rw [if_neg (by rw [h1]; exact Bool.false_ne_true), h2]
  exact wpAny_isInstance hT h3 h
theorem own_rel {a : Addr} {o : Obj} {Q : Bool → Shared → Prop} (ho : s.heap.get? a = some o) (hc : o.cls = .type "bytearray") (h : Q false s) : wpAny (model prog w) A (Builtin.Bytes.ownRelease (.ref a)) Q E s := by
  unfold Builtin.Bytes.ownRelease
  exact wpAny_bind (own_slot (T := "bytearray") (id := "bytearray.__release_buffer__") ⟨_, ho, hc⟩ rel_ba (by decide +kernel) (by decide +kernel) sub_self (wpAny_pure h))
theorem pay {a : Addr} {b : Array UInt8} {Q : Array UInt8 → Shared → Prop} (ho : s.heap.get? a = some { cls := .type "bytearray", data := .bytearray b }) (h : Q b s) : wpAny (model prog w) A (Builtin.Bytes.payload (.ref a)) Q E s := by
  unfold Builtin.Bytes.payload Builtin.Bytes.payload?
  exact wpAny_bind (wpAny_bind (wpAny_load ho (wpAny_pure (wpAny_pure h))))
theorem buffer_ba {id : String} {full : Bool} {a : Addr} {b : Array UInt8} {Q : Option (Array UInt8) → Shared → Prop} (ho : s.heap.get? a = some { cls := .type "bytearray", data := .bytearray b }) (h : Q (some b) s) : wpAny (model prog w) A (Builtin.Bytes.buffer? id (.ref a) full) Q E s := by
  have hT : s.TypeIs (.ref a) "bytearray" := ⟨_, ho, rfl⟩
  unfold Builtin.Bytes.buffer?
  refine wpAny_bind (wpAny_specialOf hT buf_ba ?_)
  refine wpAny_bind (own_slot hT buf_ba (by decide +kernel) (by decide +kernel) sub_self ?_)
  refine bm_if_false rfl ?_
  refine wpAny_bind (wpAny_specialOf hT buf_ba ?_)
  refine wpAny_bind (own_rel ho rfl ?_)
  refine bm_if_false rfl ?_
  exact wpAny_bind (pay ho (wpAny_pure h))
theorem buffer_bytes {id : String} {full : Bool} {b : Array UInt8} {t : Tok} {Q : Option (Array UInt8) → Shared → Prop} (h : Q (some b) s) : wpAny (model prog w) A (Builtin.Bytes.buffer? id (.bytes b t) full) Q E s := by
  have hT : s.TypeIs (.bytes b t) "bytes" := typeIs_bytes s b t
  unfold Builtin.Bytes.buffer?
  refine wpAny_bind (wpAny_specialOf hT buf_bytes ?_)
  refine wpAny_bind (own_slot hT buf_bytes (by decide +kernel) (by decide +kernel) sub_bytes ?_)
  refine bm_if_false rfl ?_
  refine wpAny_bind (wpAny_specialOf hT buf_bytes ?_)
  unfold Builtin.Bytes.ownRelease Builtin.Bytes.slotIsOwn
  refine wpAny_bind (wpAny_bind (wpAny_bind (wpAny_specialOf hT rel_bytes ?_)))
  refine wpAny_pure (wpAny_pure ?_)
  refine bm_if_false rfl ?_
  unfold Builtin.Bytes.payload Builtin.Bytes.payload?
  exact wpAny_bind (wpAny_bind (wpAny_pure (wpAny_pure (wpAny_pure h))))
theorem take_bytes {id : String} {b : Array UInt8} {t : Tok} {Q : Option (Array UInt8 × Option Value) → Shared → Prop} (h : Q (some (b, none)) s) : wpAny (model prog w) A (Builtin.Bytes.takeBufferQuiet? id (.bytes b t) 0) Q E s := by
  have hT : s.TypeIs (.bytes b t) "bytes" := typeIs_bytes s b t
  unfold Builtin.Bytes.takeBufferQuiet?
  refine wpAny_bind (wpAny_attempt ?_)
  unfold Builtin.Bytes.takeBuffer?
  refine wpAny_bind (wpAny_specialOf hT buf_bytes ?_)
  refine wpAny_bind (own_slot hT buf_bytes (by decide +kernel) (by decide +kernel) sub_bytes ?_)
  refine bm_if_false rfl ?_
  refine wpAny_bind (wpAny_specialOf hT buf_bytes ?_)
  exact wpAny_bind (buffer_bytes (wpAny_pure (wpAny_pure h)))

theorem on_extend {a : Addr} {b c : Array UInt8} {t : Tok} {Q : Value → Shared → Prop} (ho : s.heap.get? a = some { cls := .type "bytearray", data := .bytearray b }) (hz : b.size + c.size ≤ sizeLine)
    (h : ∀ h', Heap.SameBut a s.heap h' → h'.get? a = some { cls := .type "bytearray", data := .bytearray (b ++ c) } → Q .none { s with heap := h' }) :
    wpOn (model prog w) A (call (.builtin "bytearray.extend") [.ref a, .bytes c t]) Q noE s := by
  refine on_slot slot_extend ⟨_, ho, rfl⟩ entry_extend (show (!holders.contains "bytearray.extend") = true by decide +kernel) (args_extend _ _) ?_
  unfold Builtin.«bytearray.extend»
  refine on_then (wpAny_of_eq (a := (.ref a, .bytes c t)) rfl ?_)
  refine on_then (wpAny_specialOf (typeIs_bytes s c t) buf_bytes ?_)
  refine on_if_true rfl ?_
  refine on_then (wpAny_rule ?_)
  refine on_then (pay ho ?_)
  refine on_then (take_bytes ?_)
  refine on_if_true rfl ?_
  show wpOn _ _ (if (!c.isEmpty) = true then (Builtin.Bytes.checkResize (.ref a) >>= fun _ => (Builtin.Bytes.write (.ref a) (· ++ c) >>= fun _ => ret .none)) else (Builtin.Bytes.write (.ref a) (· ++ c) >>= fun _ => ret .none)) _ _ _
  have fin : wpOn (model prog w) A.in1 (Builtin.Bytes.write (.ref a) (· ++ c) >>= fun _ => ret .none) (fun fin s' => ∃ v, fin = .done (.ret v) ∧ Q v s') noE s :=
    on_then (on_write (f := fun x => x ++ c) ho (by simp; omega) fun ho2 => on_pure ⟨_, rfl, h _ (Heap.SameBut.update ..) ho2⟩)
  cases hc : c.isEmpty with
  | true => exact on_if_false rfl fin
  | false => exact on_if_true rfl (on_bind (on_checkResize ho rfl fin))

theorem bind_init : Builtin.Bytes.bindOptional "bytearray.__init__" "bytearray" ["source", "encoding", "errors"] [] [] = pure [none, none, none] := by kernel_rfl
theorem on_bytearray {Q : Value → Shared → Prop} (h : ∀ h', (∀ b o, s.heap.get? b = some o → h'.get? b = some o) → h'.get? s.heap.objs.size = some { cls := .type "bytearray", data := .bytearray #[] } → Q (.ref s.heap.objs.size) { s with heap := h' }) :
    wpOn (model prog w) A (call (.type "bytearray") []) Q noE s := by
  refine on_call (codeOn_tree ?_)
  show wpOn _ _ (callAny (.type "bytearray") _) _ _ _
  refine on_pure ⟨Code.quiet_builtin _ (by decide +kernel), by decide +kernel, codeOn_builtin F.entry_type_call ?_⟩
  rw [Around.under_plain (weight_type_call_type "bytearray" [] []) rfl]
  unfold Builtin.«type.__call__»
  refine on_if_false rfl ?_
  refine on_if_false (by decide +kernel) ?_
  refine on_then (wpAny_of_eq typeCall ?_)
  refine on_then (wpAny_of_eq mro ?_)
  refine on_if_false rfl ?_
  refine on_then (wpAny_of_eq made ?_)
  refine on_bind (on_pure ?_)
  refine on_then (wpAny_holding (wpAny_call (code_new ?_)))
  have ho : (s.heap.push { cls := .type "bytearray", data := .bytearray #[] }).get? s.heap.objs.size = some { cls := .type "bytearray", data := .bytearray #[] } := Heap.get?_push_size _ rfl
  have hT : ({ s with heap := s.heap.push { cls := .type "bytearray", data := .bytearray #[] } } : Shared).TypeIs (.ref s.heap.objs.size) "bytearray" := ⟨_, ho, rfl⟩
  refine on_then (wpAny_isInstance hT sub_self ?_)
  refine on_if_false rfl ?_
  refine on_bind (on_holding ?_)
  unfold callSpecial?
  refine on_then (wpAny_specialOf hT slot_init.lookup ?_)
  refine on_holding ?_
  refine on_then (wpAny_of_eq (slot_init.bind _) ?_)
  refine on_bind (on_slot slot_init hT entry_init (show (!holders.contains "bytearray.__init__") = true by decide +kernel) (args_init _) ?_)
  unfold Builtin.«bytearray.__init__»
  refine on_then (own_rel ho rfl ?_)
  refine on_if_false rfl ?_
  refine on_then (wpAny_of_eq bind_init ?_)
  refine on_then (wpAny_of_eq (a := ()) rfl ?_)
  refine on_then (wpAny_of_eq (a := ()) rfl ?_)
  refine on_bind (on_bind (on_exported ?_))
  refine on_then (wpAny_bind (wpAny_load ho ?_))
  refine wpAny_pure (on_pure (on_if_false rfl ?_))
  refine on_then (on_write (f := fun _ => #[]) ho (by simp [sizeLine_eq]) fun ho2 => ?_)
  refine on_then (m := (_ : Sem Unit)) (wpAny_of_eq (a := ()) rfl (on_pure ⟨_, rfl, ?_⟩))
  exact on_pure (on_if_false rfl (on_pure (h _ (fun b o e => (Heap.get?_update_ne _ _ _ _ (Nat.ne_of_lt (Heap.lt_size e))).trans (Heap.get?_push_of_some _ e)) ho2)))

theorem code_bytes {a : Addr} {b : Array UInt8} {Q : Value → Shared → Prop} (ho : s.heap.get? a = some { cls := .type "bytearray", data := .bytearray b }) (hz : b.size ≤ sizeLine) (hQ : ∀ t k, Q (.bytes b t) { s with toks := k }) :
    codeAny (model prog w) A (.call (.builtin "bytes.__new__") ⟨[.type "bytes", .ref a], []⟩) (wants Q E) s := by
  refine codeAny_of_tree ?_
  show wpAny _ A.in1 (do checkBuiltinCall "bytes.__new__" ⟨[.type "bytes", .ref a], []⟩; again (.builtin "bytes.__new__" ⟨[.type "bytes", .ref a], []⟩)) _ _ s
  refine wpAny_bind (wpAny_of_eq (F.bm_newCall _) (wpAny_pure ⟨plainId_quiet F.bm_plain _, codeAny_builtin F.bm_entry ?_⟩))
  rw [Around.under_plainId F.bm_plain _]
  have hT : s.TypeIs (.ref a) "bytearray" := ⟨_, ho, rfl⟩
  unfold Builtin.«bytes.__new__»
  refine wpAny_bind (wpAny_of_eq (a := true) rfl ?_)
  refine bm_if_false rfl ?_
  refine wpAny_bind (wpAny_of_eq F.bm_sub ?_)
  refine bm_if_false rfl ?_
  refine wpAny_bind (wpAny_of_eq (F.bm_bind _) ?_)
  refine wpAny_bind (wpAny_of_eq (a := ()) rfl ?_)
  refine wpAny_bind (wpAny_of_eq (a := ()) rfl ?_)
  refine bm_if_false rfl ?_
  refine wpAny_bind (wpAny_specialOf hT bytes_ba ?_)
  refine wpAny_bind (wpAny_bind ?_)
  show wpAny _ _ (load a >>= _) _ _ _
  refine wpAny_bind (wpAny_load ho ?_)
  refine wpAny_pure (wpAny_pure ?_)
  refine bm_if_false rfl ?_
  refine wpAny_bind (wpAny_specialOf hT index_ba ?_)
  refine bm_if_true rfl ?_
  show wpAny _ _ (Builtin.Bytes.buffer? "bytes.__new__" (.ref a) true >>= _) _ _ _
  refine wpAny_bind (buffer_ba ho ?_)
  refine wpAny_bind (wpAny_rule (wpAny_bind (wpAny_mkBytes ?_ hz)))
  show wpAny _ _ (if (Value.type "bytes" == Value.type "bytes") = true then _ else _) _ _ _
  refine bm_if_true (by decide) ?_
  first
    | exact wpAny_pure (hQ _ _)
    | exact wpAny_bind (wpAny_pure (wpAny_pure (hQ _ _)))
theorem call_bytes {a : Addr} {b : Array UInt8} {Q : Value → Shared → Prop} (ho : s.heap.get? a = some { cls := .type "bytearray", data := .bytearray b }) (hz : b.size ≤ sizeLine) (hQ : ∀ t k, Q (.bytes b t) { s with toks := k }) :
    wpAny (model prog w) A (call (.type "bytes") [.ref a]) Q E s :=
  callType_codes (Q₁ := fun obj s₁ => s₁.TypeIs obj "bytes" ∧ Q obj s₁) F.bm_called (F.bm_typeCall _) F.entry_object_init
    (code_bytes ho hz fun t k => ⟨typeIs_bytes _ _ _, hQ t k⟩) fun obj s₁ h₁ =>
    ⟨h₁.1, F.args_object_init_2 obj _, object_init_meets F.bm_called.init.lookup F.bm_called.made (by decide) prog w A.in1 _ s₁ ⟨h₁.1, rfl, h₁.2⟩⟩
end
end BA

abbrev baObj (b : Array UInt8) : Obj := { cls := .type "bytearray", data := .bytearray b }
theorem byteArr_push (ks : List Int) (c : Int) : (byteArr ks).push c.toNat.toUInt8 = byteArr (ks ++ [c]) := by simp [byteArr]
theorem byteArr_ints (b : Array UInt8) : byteArr (KBw.bInts b) = b := by
  unfold byteArr KBw.bInts
  rw [List.map_map]
  have e : ((fun n : Int => n.toNat.toUInt8) ∘ fun c : UInt8 => (c.toNat : Int)) = id := by
    funext c; simp
  rw [e, List.map_id]
theorem byteArr_app (ks : List Int) {c : Array UInt8} {ls : List Int} (h : KBw.bInts c = ls) : byteArr ks ++ c = byteArr (ks ++ ls) := by
  rw [← h]
  conv => lhs; rw [← byteArr_ints c]
  simp [byteArr]
namespace BA
theorem plainAttrs : PlainAttrs "bytearray" :=
  ⟨⟨"bytearray.__getattribute__", by rw [typeLookup_type, builtinLookup_eq_fast]; kernel_rfl, by decide +kernel⟩, by rw [typeLookup_type, builtinLookup_eq_fast]; kernel_rfl⟩
theorem type_append : typeOf (.builtin "bytearray.append") = pure (.type "method_descriptor") := by show builtinType _ = _; rw [builtinType_eq_fast]; kernel_rfl
theorem type_extend : typeOf (.builtin "bytearray.extend") = pure (.type "method_descriptor") := by show builtinType _ = _; rw [builtinType_eq_fast]; kernel_rfl
section
variable {prog : Program} {w : World} {A : Around} {E : Value → Shared → Prop} {s : Shared} {h₀ : Heap} {L a : Addr} {m : Str → Option Value} {news news' : List (Addr × Obj)} {ks ls : List Int}
theorem upd_ba {h' : Heap} {h : Heap} {o o' : Obj} (F : Fr h₀ L h m) (N : News h₀ L h news) (U : Upd a o o' news news') (sb : Heap.SameBut a h h') (e : h'.get? a = some o') : Fr h₀ L h' m ∧ News h₀ L h' news' := by
  obtain ⟨pre, post, rfl, rfl, x, y⟩ := U.split
  have z := N (a, o) (List.mem_append_right _ (.head _))
  refine ⟨F.change sb z.2.1 z.2.2, fun p hp => ?_⟩
  rcases List.mem_append.mp hp with q | q
  · have P := N p (List.mem_append_left _ q)
    exact ⟨(sb.2 _ (x p q)).trans P.1, P.2⟩
  · rcases List.mem_cons.mp q with rfl | q
    · exact ⟨e, z.2⟩
    · have P := N p (List.mem_append_right _ (.tail _ q))
      exact ⟨(sb.2 _ (y p q)).trans P.1, P.2⟩
theorem mem_ba {o o' : Obj} (U : Upd a o o' news news') : (a, o) ∈ news := by
  obtain ⟨pre, post, rfl, rfl, x, y⟩ := U.split
  exact List.mem_append_right _ (.head _)
theorem appendN {c : Int} {t : Tok} {Q : Value → Shared → Prop} (F : Fr h₀ L s.heap m) (N : News h₀ L s.heap news) (U : Upd a (baObj (byteArr ks)) (baObj (byteArr (ks ++ [c]))) news news') (h0 : 0 ≤ c) (h1 : c < 256) (hz : ks.length < sizeLine)
    (h : ∀ h', Fr h₀ L h' m → News h₀ L h' news' → Q .none { s with heap := h' }) : wpOn (model prog w) A (call (.builtin "bytearray.append") [.ref a, .int c t]) Q noE s :=
  on_append (N _ (mem_ba U)).1 h0 h1 (by rw [byteArr_size]; exact hz) fun h' sb e => by
    rw [byteArr_push] at e
    have z := upd_ba F N U sb e
    exact h h' z.1 z.2
theorem extendN {c : Array UInt8} {t : Tok} {Q : Value → Shared → Prop} (F : Fr h₀ L s.heap m) (N : News h₀ L s.heap news) (hc : KBw.bInts c = ls) (U : Upd a (baObj (byteArr ks)) (baObj (byteArr (ks ++ ls))) news news') (hz : ks.length + ls.length ≤ sizeLine)
    (h : ∀ h', Fr h₀ L h' m → News h₀ L h' news' → Q .none { s with heap := h' }) : wpOn (model prog w) A (call (.builtin "bytearray.extend") [.ref a, .bytes c t]) Q noE s :=
  on_extend (N _ (mem_ba U)).1 (by rw [byteArr_size, ← KBw.ints_length c, hc]; exact hz) fun h' sb e => by
    rw [byteArr_app ks hc] at e
    have z := upd_ba F N U sb e
    exact h h' z.1 z.2
theorem newN {Q : Value → Shared → Prop} (F : Fr h₀ L s.heap m) (N : News h₀ L s.heap news) (h : ∀ a h', Fr h₀ L h' m → News h₀ L h' ((a, baObj (byteArr [])) :: news) → (∀ p ∈ news, p.1 ≠ a) → Q (.ref a) { s with heap := h' }) :
    wpOn (model prog w) A (call (.type "bytearray") []) Q noE s :=
  on_bytearray fun h' k e => by
    have hn : s.heap.get? s.heap.objs.size = none := by
      cases q : s.heap.get? s.heap.objs.size with
      | none => rfl
      | some o => exact absurd (Heap.lt_size q) (Nat.lt_irrefl _)
    have hne : s.heap.objs.size ≠ L := by
      intro q
      obtain ⟨oL, _, _, hL, _⟩ := F.ns
      rw [← q, hn] at hL; cases hL
    have F' : Fr h₀ L h' m := by
      obtain ⟨oL, es, ep, hL, hLd, hLk, hLf⟩ := F.ns
      exact ⟨⟨oL, es, ep, k _ _ hL, hLd, hLk, hLf⟩, fun b o e => k _ _ (F.keep b o e), F.above⟩
    refine h _ h' F' (fun p hp => ?_) fun p hp q => ?_
    · rcases List.mem_cons.mp hp with rfl | hp
      · refine ⟨e, hne, ?_⟩
        cases q : h₀.get? s.heap.objs.size with
        | none => rfl
        | some o' => rw [F.keep _ _ q] at hn; cases hn
      · exact ⟨k _ _ (N p hp).1, (N p hp).2⟩
    · have z := (N p hp).1
      rw [q, hn] at z; cases z
theorem bytesN {Q : Value → Shared → Prop} (N : News h₀ L s.heap news) (hm : (a, baObj (byteArr ks)) ∈ news) (hz : ks.length ≤ sizeLine) (h : ∀ t k, Q (.bytes (byteArr ks) t) { s with toks := k }) :
    wpAny (model prog w) A (call (.type "bytes") [.ref a]) Q E s := call_bytes (N _ hm).1 (by rw [byteArr_size]; exact hz) h
theorem methodN {name : Str} {id : String} {b : Array UInt8} {pl : Sem Bool} {Q : Value × List Value → Shared → Prop} (N : News h₀ L s.heap news) (hm : (a, baObj b) ∈ news) (slot : Slot "bytearray" name id) (hty : typeOf (.builtin id) = pure (.type "method_descriptor"))
    (h : Q (.builtin id, [.ref a]) s) : wpAny (model prog w) A (getMethod (.ref a) name pl) Q E s :=
  getMethod_builtin ⟨_, (N _ hm).1, rfl⟩ plainAttrs slot hty (fun a e => by cases e; exact ⟨_, (N _ hm).1, rfl⟩) h
end
end BA

section
variable {prog : Program} {w : World} {A : Around} {s : Shared} {env : Env} {h₀ : Heap} {x : Str} {body : List Stmt} {Q : Flow → Shared → Prop}
/-- names the base of the frame at hand -/
structure BaseIs (h₀ : Heap) : Prop where
theorem Fr.base {h₀ : Heap} {L : Addr} {h : Heap} {m : Str → Option Value} (_F : Fr h₀ L h m) : BaseIs h₀ := BaseIs.mk
/-- a loop over calm stacks: its iterator is one object of its own -/
def LoopOn (prog : Program) (w : World) (A : Around) (h₀ : Heap) (env : Env) (x : Str) (body : List Stmt) (Q : Flow → Shared → Prop) (it : Value) (s : Shared) : Prop :=
  ∃ (I : Addr) (n : Nat) (P : Nat → Value → Prop) (St : Nat → Heap → Prop) (m : Str → Option Value) (news : List (Addr × Obj)) (J : Nat → (Str → Option Value) → List (Addr × Obj) → Prop),
    it = .ref I ∧ Walks prog w A I [I] [I] n P St ∧ env.locals ≠ I ∧ h₀.get? I = none ∧ (∀ p ∈ news, p.1 ≠ I) ∧ (∀ i h, St i h → ∃ o, h.get? I = some o) ∧ St 0 s.heap ∧ Fr h₀ env.locals s.heap m ∧ News h₀ env.locals s.heap news ∧ J 0 m news ∧
    (∀ i v m₁ news₁ h tk own, i < n → P i v → OwnOff own (news.map (·.1)) → J i m₁ news₁ → Fr h₀ env.locals h (fun y => if y = x then some v else m₁ y) → News h₀ env.locals h (news₁ ++ own) →
      wpOn (model prog w) A (execs body env) (InvPostN h₀ env.locals (J (i + 1)) own (news.map (·.1)) { s with heap := h, toks := tk } Q) noE { s with heap := h, toks := tk }) ∧
    (∀ m₁ news₁ h tk, J n m₁ news₁ → Fr h₀ env.locals h m₁ → News h₀ env.locals h news₁ → Q .next { s with heap := h, toks := tk })

theorem on_ForOn {px : Pos} {iter : Expr} {pos : Pos} (_hB : BaseIs h₀) (hx : env.kindOf x = some .local) (hp : (env.scope.kind == .class || (env.scope.kind == .module && env.locals != env.globals)) = false)
    (h : wpAny (model prog w) A (eval iter env) (fun v s₁ => wpAny (model prog w) A (pyIter v) (fun it s₂ => LoopOn prog w A h₀ env x body Q it s₂) noE s₁) noE s)
    (hs : ∀ x, foldedSetIterable iter env x = pure x := by intro _; rfl) (ht : ∀ it v, letOwnedTupleGo (.Name x px) it v = pure () := by intro _ _; rfl) :
    wpOn (model prog w) A (exec (.For (.Name x px) iter body [] pos) env) Q noE s := by
  refine on_For (I := fun it k s' => ∃ (s₀ : Shared) (I : Addr) (n : Nat) (P : Nat → Value → Prop) (St : Nat → Heap → Prop) (news : List (Addr × Obj)) (J : Nat → (Str → Option Value) → List (Addr × Obj) → Prop) (i : Nat) (m₁ : Str → Option Value) (news₁ : List (Addr × Obj)) (h : Heap) (tk : Nat),
    it = .ref I ∧ s' = { s₀ with heap := h, toks := tk } ∧ i ≤ n ∧ k = n - i ∧ Walks prog w A I [I] [I] n P St ∧ env.locals ≠ I ∧ h₀.get? I = none ∧ (∀ p ∈ news₁, p.1 ≠ I) ∧ news₁.map (·.1) = news.map (·.1) ∧ (∀ p ∈ news, p.1 ≠ I) ∧ (∀ i h, St i h → ∃ o, h.get? I = some o) ∧ St i h ∧ Fr h₀ env.locals h m₁ ∧ News h₀ env.locals h news₁ ∧ J i m₁ news₁ ∧
    (∀ i v m₁ news₁ h tk own, i < n → P i v → OwnOff own (news.map (·.1)) → J i m₁ news₁ → Fr h₀ env.locals h (fun y => if y = x then some v else m₁ y) → News h₀ env.locals h (news₁ ++ own) →
      wpOn (model prog w) A (execs body env) (InvPostN h₀ env.locals (J (i + 1)) own (news.map (·.1)) { s₀ with heap := h, toks := tk } Q) noE { s₀ with heap := h, toks := tk }) ∧
    (∀ m₁ news₁ h tk, J n m₁ news₁ → Fr h₀ env.locals h m₁ → News h₀ env.locals h news₁ → Q .next { s₀ with heap := h, toks := tk })) ?_ (wpAny_mono h (fun v s₁ h₁ => wpAny_mono h₁ (fun it s₂ h₂ => ?_) fun _ _ x => x) fun _ _ x => x) hs ht
  · rintro it k s' ⟨s₀, I, n, P, St, news, J, i, m₁, news₁, hh, tk, rfl, rfl, hi, rfl, W, hL, hI, hoff, hadr, hoff0, hIo, hst, F, N, hJ, turn, done⟩
    have keepF : ∀ h₁ : Heap, (∀ b o, b ∉ [I] → hh.get? b = some o → h₁.get? b = some o) → Fr h₀ env.locals h₁ m₁ ∧ News h₀ env.locals h₁ news₁ := fun h₁ k₁ =>
      ⟨LCg.fr_but F k₁ hL hI, LCg.news_but N k₁ hoff⟩
    by_cases hlt : i < n
    · refine W.item i _ _ _ hlt hst fun v h₁ tk₁ hP hst₁ k₁ => ?_
      obtain ⟨F₁, N₁⟩ := keepF h₁ k₁
      refine wpAny_storeName_local hx F₁.ns (fun h₂ hn₂ hs₂ => ?_) hp
      have F₂ := F₁.set hn₂ hs₂
      have hst₂ : St (i + 1) h₂ := W.frame _ _ _ hst₁ fun b hb o e => (hs₂.2 b fun q => hL (by rw [← q]; exact List.mem_singleton.mp hb)).trans e
      obtain ⟨oI, heI⟩ := hIo _ _ hst₂
      have N₂ : News h₀ env.locals h₂ (news₁ ++ [(I, oI)]) := fun p hp => by
        rcases List.mem_append.mp hp with hp | hp
        · exact N₁.set hs₂ p hp
        · rw [List.mem_singleton.mp hp]; exact ⟨heI, Ne.symm hL, hI⟩
      have hown : OwnOff [(I, oI)] (news.map (·.1)) := fun p hp b hb e => by
        rw [List.mem_singleton.mp hp] at e
        obtain ⟨q, hq, rfl⟩ := List.mem_map.mp hb
        exact hoff0 q hq e.symm
      refine on_mono (turn i v m₁ news₁ h₂ _ [(I, oI)] hlt hP hown hJ F₂ N₂) (fun f s₃ q => ?_) fun _ _ x => x
      cases f with
      | ret v => exact q
      | brk => exact q
      | next =>
        obtain ⟨h', tk', m', news', nx, e, F', N', hn', ho', ha, hS⟩ := q
        refine ⟨n - (i + 1), by omega, s₀, I, n, P, St, news, J, i + 1, m', nx, h', tk', rfl, e, hlt, rfl, W, hL, hI, (fun p hp q => ?_), ha, hoff0, hIo, W.frame _ _ _ hst₂ (fun b hb o e => ?_), F', (fun p hp => N' p (hn' p hp)), hS, turn, done⟩
        · have : p.1 ∈ news.map (·.1) := ha ▸ List.mem_map_of_mem hp
          obtain ⟨r, hr, hr'⟩ := List.mem_map.mp this
          exact hoff0 r hr (hr'.trans q)
        · have e2 := List.mem_singleton.mp hb
          subst e2
          rw [heI] at e; cases e
          exact (N' _ (ho' _ (.head _))).1
      | cont =>
        obtain ⟨h', tk', m', news', nx, e, F', N', hn', ho', ha, hS⟩ := q
        refine ⟨n - (i + 1), by omega, s₀, I, n, P, St, news, J, i + 1, m', nx, h', tk', rfl, e, hlt, rfl, W, hL, hI, (fun p hp q => ?_), ha, hoff0, hIo, W.frame _ _ _ hst₂ (fun b hb o e => ?_), F', (fun p hp => N' p (hn' p hp)), hS, turn, done⟩
        · have : p.1 ∈ news.map (·.1) := ha ▸ List.mem_map_of_mem hp
          obtain ⟨r, hr, hr'⟩ := List.mem_map.mp this
          exact hoff0 r hr (hr'.trans q)
        · have e2 := List.mem_singleton.mp hb
          subst e2
          rw [heI] at e; cases e
          exact (N' _ (ho' _ (.head _))).1
    · obtain rfl : i = n := Nat.le_antisymm hi (Nat.not_lt.mp hlt)
      refine W.done _ _ _ hst fun h₁ tk₁ k₁ => ?_
      obtain ⟨F₁, N₁⟩ := keepF h₁ k₁
      exact done _ _ _ _ hJ F₁ N₁
  · obtain ⟨I, n, P, St, m, news, J, rfl, W, hL, hI, hoff, hIo, hst, F, N, hJ, turn, done⟩ := h₂
    exact ⟨n, s₂, I, n, P, St, news, J, 0, m, news, s₂.heap, s₂.toks, rfl, rfl, Nat.zero_le _, rfl, W, hL, hI, hoff, rfl, hoff, hIo, hst, F, N, hJ, turn, done⟩

theorem on_kst_range {σ : Type} {r : Addr} {a₀ b₀ : Int} {t₀ u₀ v₀ : Tok} {n : Nat} {m₀ : Str → Option Value} (Led : σ → List (Addr × Obj)) (ps : σ → List (Str × Value)) (Facts : σ → Prop) (stored : List Str) (P : List Int → σ → Prop) (c₀ : σ)
    (hh : A.handled = none) (hr : IsRange s.heap r a₀ b₀ 1 t₀ u₀ v₀) (hsmall : Builtin.Range.small a₀ b₀ 1 = true) (hn : Builtin.Range.rangeSize a₀ b₀ 1 = (n : Int)) (F : Fr h₀ env.locals s.heap m₀) (N : News h₀ env.locals s.heap (Led c₀)) (hf : Facts c₀) (hk : ∀ p ∈ ps c₀, m₀ p.1 = some p.2) (hp : P [] c₀)
    (turn : ∀ (c : σ) (pre : List Int) (k : Int) t (u : Str → Option Value) h tk own, k = a₀ + (pre.length : Int) → pre.length < n → OwnOff own ((Led c₀).map (·.1)) → Facts c → P pre c →
      Fr h₀ env.locals h (fun y => if y = x then some (.int k t) else kstB (fun z => if stored.contains z then u z else m₀ z) (ps c) y) → News h₀ env.locals h (Led c ++ own) →
      wpOn (model prog w) A (execs body env) (InvPostN h₀ env.locals (KstS Led ps Facts x stored m₀ P (pre ++ [k])) own ((Led c₀).map (·.1)) { s with heap := h, toks := tk } Q) noE { s with heap := h, toks := tk })
    (done : ∀ (c : σ) (u : Str → Option Value) h tk pre, pre.length = n → Facts c → P pre c → Fr h₀ env.locals h (fun y => if y = x then u y else kstB (fun z => if stored.contains z then u z else m₀ z) (ps c) y) → News h₀ env.locals h (Led c) → Q .next { s with heap := h, toks := tk }) :
    wpAny (model prog w) A (pyIter (.ref r)) (fun it s₂ => LoopOn prog w A h₀ env x body Q it s₂) noE s := by
  refine wpAny_pyIter_range hr hsmall ?_
  have W : Walks prog w A s.heap.objs.size [s.heap.objs.size] [s.heap.objs.size] n (fun i v => i < n ∧ ∃ t, v = .int (a₀ + i * 1) t)
      (fun i h => IsRangeIter h s.heap.objs.size (a₀ + (i : Nat) * 1) ((n : Int) - (i : Nat)) 1) := (Walks.range hh _ a₀ 1 n).bound
  refine ⟨_, n, _, _, m₀, Led c₀, (fun i m nx => KstS Led ps Facts x stored m₀ P ((rangeKs a₀ n).take i) m nx), rfl, W, Nat.ne_of_lt F.ns.lt, next_is_new F, (fun p hp => Nat.ne_of_lt (Heap.lt_size (N p hp).1)), (fun i h st => ⟨_, st⟩),
    (by show IsRangeIter _ _ _ _ _; rw [hn]; simpa using Heap.get?_push_size _ rfl), F.push _, (fun p hp => ⟨Heap.get?_push_of_some _ (N p hp).1, (N p hp).2⟩), ⟨c₀, rfl, hf, hk, fun _ _ _ _ => rfl, by simpa using hp⟩, ?_, ?_⟩
  · rintro i v m₁ nx h tk own hi ⟨_, t, rfl⟩ hoff ⟨c, rfl, hf', h1, h2, hp'⟩ F₁ N₁
    have e1 : a₀ + (i : Int) * 1 = a₀ + (i : Int) := by omega
    rw [e1] at F₁
    have hk' : (rangeKs a₀ n)[i]? = some (a₀ + (i : Int)) := by simp [rangeKs, hi]
    have hs : (rangeKs a₀ n).take (i + 1) = (rangeKs a₀ n).take i ++ [a₀ + (i : Int)] := by simp [List.take_add_one, hk']
    have hlen : ((rangeKs a₀ n).take i).length = i := by rw [List.length_take, rangeKs_length]; omega
    show wpOn _ _ _ (InvPostN _ _ (fun m nx => KstS Led ps Facts x stored m₀ P ((rangeKs a₀ n).take (i + 1)) m nx) _ _ _ _) _ _
    rw [hs]
    exact turn c _ _ t m₁ h tk own (by rw [hlen]) (by rw [hlen]; exact hi) hoff hf' hp' (kst_fr h1 h2 F₁) N₁
  · rintro m₁ nx h tk ⟨c, rfl, hf', h1, h2, hp'⟩ F₁ N₁
    have hl : (rangeKs a₀ n).take n = rangeKs a₀ n := List.take_of_length_le (Nat.le_of_eq (rangeKs_length _ _))
    rw [hl] at hp'
    exact done c m₁ h tk _ (rangeKs_length _ _) hf' hp' (kst_frOut h1 h2 F₁) N₁
end

namespace BJ
section
variable {prog : Program} {w : World} {A : Around} {E : Value → Shared → Prop} {s : Shared}
inductive BytesAre : List Value → List (List Int) → Prop
  | nil : BytesAre [] []
  | cons (b : Array UInt8) (t : Tok) {ys : List Value} {cs : List (List Int)} : BytesAre ys cs → BytesAre (.bytes b t :: ys) (KBw.bInts b :: cs)
theorem forIn_inv {β : Type} {M : Model} {f : Nat → β → Sem (ForInStep β)} {Q : β → Shared → Prop} (I : Nat → β → Prop) (n : Nat) : ∀ (a : Nat) (st : β), I a st →
    (∀ i st, a ≤ i → i < a + n → I i st → wpAny M A (f i st) (fun r s' => ∃ st', r = ForInStep.yield st' ∧ I (i + 1) st' ∧ s' = s) E s) → (∀ st, I (a + n) st → Q st s) →
    wpAny M A (forIn (List.range' a n) st f) Q E s := by
  induction n with
  | zero =>
    intro a st h0 _ hq
    rw [List.range'_zero, List.forIn_nil]
    exact wpAny_pure (hq st h0)
  | succ n ih =>
    intro a st h0 hs hq
    rw [List.range'_succ, List.forIn_cons]
    refine wpAny_bind (wpAny_mono (hs a st (Nat.le_refl _) (by omega) h0) (fun r s' h => ?_) fun _ _ e => e)
    obtain ⟨st', rfl, h1, rfl⟩ := h
    exact ih (a + 1) st' h1 (fun i st hi1 hi2 hI => hs i st (by omega) (by omega) hI) fun st hI => hq st (by rw [show a + (n + 1) = a + 1 + n by omega]; exact hI)
def pl : Value → Array UInt8
  | .bytes b _ => b
  | _ => #[]
theorem foldl_size (l : List (Array UInt8)) : ∀ a : Nat, l.foldl (fun x y => x + y.size) a = a + (l.map (·.size)).sum := by
  induction l with
  | nil => intro a; simp
  | cons b l ih => intro a; rw [List.foldl_cons, ih]; simp [Nat.add_assoc]
theorem joined_aux : ∀ (l : List (Array UInt8)) (i : Nat) (a : Array UInt8), (l.zipIdx i).foldl (fun out (x : Array UInt8 × Nat) => (if x.2 > 0 then out ++ #[] else out) ++ x.1) a = l.foldl (· ++ ·) a
  | [], _, _ => rfl
  | b :: l, i, a => by
    rw [List.zipIdx_cons, List.foldl_cons, List.foldl_cons, joined_aux l]
    simp
theorem joined_foldl (l : List (Array UInt8)) : Builtin.Bytes.joined #[] l = l.foldl (· ++ ·) #[] := joined_aux l 0 #[]
theorem foldl_app_size (l : List (Array UInt8)) : ∀ a : Array UInt8, (l.foldl (· ++ ·) a).size = a.size + (l.map (·.size)).sum := by
  induction l with
  | nil => intro a; simp
  | cons b l ih => intro a; rw [List.foldl_cons, ih]; simp [Nat.add_assoc]
theorem joined_size (l : List (Array UInt8)) : (Builtin.Bytes.joined #[] l).size = (l.map (·.size)).sum := by
  rw [joined_foldl, foldl_app_size]; simp
theorem ints_app (a b : Array UInt8) : KBw.bInts (a ++ b) = KBw.bInts a ++ KBw.bInts b := by simp [KBw.bInts]
theorem foldl_app_ints (l : List (Array UInt8)) : ∀ a : Array UInt8, KBw.bInts (l.foldl (· ++ ·) a) = KBw.bInts a ++ (l.map KBw.bInts).flatten := by
  induction l with
  | nil => intro a; simp
  | cons b l ih => intro a; rw [List.foldl_cons, ih, ints_app]; simp
theorem joined_ints (l : List (Array UInt8)) : KBw.bInts (Builtin.Bytes.joined #[] l) = (l.map KBw.bInts).flatten := by
  rw [joined_foldl, foldl_app_ints]; simp [KBw.bInts]
theorem joinLetGo_none {M : Model} {Q : Unit → Shared → Prop} : ∀ {taken : List (Value × Option Value)} {keep : List Value}, Q () s → (∀ q ∈ taken, q.2 = none) → wpAny M A (Builtin.Bytes.joinLetGo taken keep) Q E s
  | [], _, h, _ => wpAny_pure h
  | (x, w) :: rest, keep, h, hn => by
    have : w = none := hn _ (.head _)
    subst this
    unfold Builtin.Bytes.joinLetGo
    refine wpAny_bind (wpAny_letGo ?_)
    exact joinLetGo_none h fun q hq => hn q (.tail _ hq)
theorem join_body {l : Addr} {o : Obj} {ys : List Value} {k : Nat} {t : Tok} {Q : Fin → Shared → Prop} (hx : s.heap.get? l = some o) (hc : o.cls = .type "list") (hd : o.data = .seq ys.toArray k) (hn : ys.length ≠ 1) (hys : ∀ y ∈ ys, ∃ b t, y = Value.bytes b t) (hz : ((ys.map pl).map (·.size)).sum ≤ sizeLine)
    (h : ∀ b' t' k, KBw.bInts b' = (ys.map fun y => KBw.bInts (pl y)).flatten → Q (.done (.ret (.bytes b' t'))) { s with toks := k }) :
    wpAny (model prog w) A (Builtin.«bytes.join» ⟨[.bytes #[] t, .ref l], []⟩) Q E s := by
  obtain ⟨c, dct, dat, sl⟩ := o
  simp only at hc hd
  subst hc hd
  have hT : s.TypeIs (.ref l) "list" := ⟨_, hx, rfl⟩
  have hlen : ys.toArray.size ≠ 1 := by simpa using hn
  unfold Builtin.«bytes.join» Builtin.Bytes.joinM
  refine wpAny_bind (wpAny_of_eq (a := (.bytes #[] t, .ref l)) rfl ?_)
  dsimp only
  refine wpAny_bind (m := Builtin.Bytes.joinItems (.ref l)) ?_
  unfold Builtin.Bytes.joinItems
  refine wpAny_bind (wpAny_typeOf hT ?_)
  rw [if_pos (by decide)]
  refine wpAny_pure ?_
  refine wpAny_bind (m := seqItems? (.ref l)) ?_
  refine wpAny_bind (wpAny_load hx (wpAny_pure ?_))
  dsimp only
  rw [if_pos (by decide)]
  delta Builtin.Bytes.joinM.match_1
  dsimp only
  rw [dif_neg hlen]
  refine wpAny_bind ?_
  rw [Std.Legacy.Range.forIn_eq_forIn_range']
  refine forIn_inv (fun i st => st = (((ys.take i).map pl).toArray, (ys.take i).map fun y => (y, none))) _ _ _ ?_ ?_ ?_
  · simp
  · intro i st _ hi hI
    subst hI
    have hi' : i < ys.length := by simpa [Std.Legacy.Range.size] using hi
    obtain ⟨b, tb, hb⟩ := hys _ (List.getElem_mem hi')
    have e : ys.toArray.getD i Value.none = Value.bytes b tb := by rw [← hb]; simp [hi']
    refine wpAny_bind (m := seqItems? _) (wpAny_bind (wpAny_load hx (wpAny_pure ?_)))
    dsimp only
    rw [if_neg ?_]
    · rw [e]
      refine wpAny_bind (wpAny_holding (BA.take_bytes ?_))
      dsimp only
      refine wpAny_bind (m := seqItems? _) (wpAny_bind (wpAny_load hx (wpAny_pure ?_)))
      dsimp only
      rw [if_neg (by simp)]
      refine wpAny_pure ⟨_, rfl, ?_, rfl⟩
      rw [List.take_add_one, List.getElem?_eq_getElem hi', hb]
      simp [pl]
    · simp only [Bool.or_eq_true, not_or, Bool.not_eq_true, List.any_eq_false]
      refine ⟨by decide, ?_⟩
      rintro ⟨x, u⟩ hx'
      simp only [List.mem_map] at hx'
      obtain ⟨y, hy, hy'⟩ := hx'
      obtain ⟨b, t, rfl⟩ := hys y (List.mem_of_mem_take hy)
      cases hy'
      simp [Value.onHeap]
  · intro st hI
    have hI' : st = ((ys.map pl).toArray, ys.map fun y => (y, none)) := by rw [hI]; simp [Std.Legacy.Range.size]
    subst hI'
    unfold Builtin.Bytes.payload Builtin.Bytes.payload?
    refine wpAny_bind (wpAny_bind (wpAny_pure (wpAny_pure ?_)))
    dsimp only
    rw [if_neg (by
      unfold Builtin.Bytes.tooLong
      simp only [List.size_toArray, Array.size_empty, Nat.zero_mul, List.foldl_toArray', foldl_size, Nat.zero_add]
      simpa using hz)]
    refine wpAny_bind (wpAny_mkBytes ?_ (by rw [joined_size]; exact hz))
    refine wpAny_bind (wpAny_holding (wpAny_point ?_))
    refine wpAny_bind (joinLetGo_none ?_ fun q hq => ?_)
    · exact wpAny_pure (h _ _ _ (by rw [joined_ints, List.map_map]; rfl))
    · obtain ⟨y, _, rfl⟩ := List.mem_map.mp hq
      rfl
end
end BJ
namespace BJ
section
theorem slot_join : Slot "bytes" "join" "bytes.join" :=
  .of (owner := "bytes") (n := "join") (by rw [typeLookup_type, builtinLookup_eq_fast]; kernel_rfl) (by decide +kernel) (by decide +kernel) (by decide +kernel)
    (by first | exact .inl (by decide +kernel) | exact .inr (by decide +kernel)) (by rw [isSubtype_type]; kernel_rfl)
theorem entry_join : entryFor table "bytes.join" = some Builtin.«bytes.join» := by first | exact entryFor_of_fast (by kernel_rfl) | exact entryFor_of_tree (by kernel_rfl)
theorem args_join (a b : Value) : argsOk "bytes.join" ⟨[a, b], []⟩ := by unfold argsOk; kernel_rfl
theorem type_join : typeOf (.builtin "bytes.join") = pure (.type "method_descriptor") := by show builtinType _ = _; rw [builtinType_eq_fast]; kernel_rfl
variable {prog : Program} {w : World} {A : Around} {E : Value → Shared → Prop} {s : Shared} {h₀ : Heap} {L : Addr} {news : List (Addr × Obj)}
theorem BytesAre.all {ys : List Value} {cs : List (List Int)} (h : BytesAre ys cs) : ∀ y ∈ ys, ∃ b t, y = Value.bytes b t := by
  induction h with
  | nil => intro y hy; cases hy
  | cons b t _ ih =>
    intro y hy
    rcases List.mem_cons.mp hy with rfl | hy
    · exact ⟨b, t, rfl⟩
    · exact ih y hy
theorem BytesAre.ints {ys : List Value} {cs : List (List Int)} (h : BytesAre ys cs) : (ys.map fun y => KBw.bInts (pl y)) = cs := by
  induction h with
  | nil => rfl
  | cons b t _ ih => rw [List.map_cons, ih]; rfl
theorem BytesAre.sizes {ys : List Value} {cs : List (List Int)} (h : BytesAre ys cs) : ((ys.map pl).map (·.size)) = cs.map (·.length) := by
  induction h with
  | nil => rfl
  | cons b t _ ih =>
    rw [List.map_cons, List.map_cons, ih, List.map_cons, KBw.ints_length]; rfl
theorem BytesAre.snoc {ys : List Value} {cs : List (List Int)} {b : Array UInt8} {c : List Int} {t : Tok} (h : BytesAre ys cs) (e : KBw.bInts b = c) : BytesAre (ys ++ [.bytes b t]) (cs ++ [c]) := by
  subst e
  induction h with
  | nil => exact .cons _ _ .nil
  | cons b t _ ih => exact .cons _ _ ih
theorem BytesAre.len {ys : List Value} {cs : List (List Int)} (h : BytesAre ys cs) : ys.length = cs.length := by
  induction h with
  | nil => rfl
  | cons b t _ ih => simp [ih]
theorem joinN {l : Addr} {ys : List Value} {k : Nat} {t : Tok} {cs : List (List Int)} {Q : Value → Shared → Prop} (N : News h₀ L s.heap news) (hm : (l, W.listOf ys.toArray k) ∈ news) (hb : BytesAre ys cs) (hz : (cs.map (·.length)).sum ≤ sizeLine)
    (h : ∀ b' t' k, KBw.bInts b' = cs.flatten → Q (.bytes b' t') { s with toks := k }) :
    wpAny (model prog w) A (call (.builtin "bytes.join") [.bytes #[] t, .ref l]) Q E s := by
  refine wpAny_call_entry slot_join (typeIs_bytes _ _ _) entry_join ?_ (args_join _ _)
  have hx := (N _ hm).1
  by_cases hn : ys.length = 1
  · obtain ⟨y, rfl⟩ := List.length_eq_one_iff.mp hn
    cases hb with
    | cons b tb h2 =>
      cases h2
      unfold Builtin.«bytes.join» Builtin.Bytes.joinM
      refine wpAny_bind (wpAny_of_eq (a := (.bytes #[] t, .ref l)) rfl ?_)
      dsimp only
      refine wpAny_bind (m := Builtin.Bytes.joinItems (.ref l)) ?_
      unfold Builtin.Bytes.joinItems
      refine wpAny_bind (wpAny_typeOf (T := "list") ⟨_, hx, rfl⟩ ?_)
      rw [if_pos (by decide)]
      refine wpAny_pure ?_
      refine wpAny_bind (m := seqItems? (.ref l)) ?_
      refine wpAny_bind (wpAny_load hx (wpAny_pure ?_))
      dsimp only
      rw [if_pos (by decide)]
      show wpAny _ _ (do
        let __do_lift ← typeOf (.bytes b tb)
        if (__do_lift == Value.type "bytes") = true then do
            rule "bytes.join.one-item"
            ret (.bytes b tb)
          else _) _ _ _
      refine wpAny_bind (wpAny_typeOf (typeIs_bytes _ _ _) ?_)
      rw [if_pos (by decide)]
      refine wpAny_bind (wpAny_rule (wpAny_pure ⟨_, rfl, h b tb s.toks (by simp)⟩))
  · refine join_body (ys := ys) hx rfl rfl hn hb.all (by rw [hb.sizes]; exact hz) fun b' t' k e => ⟨_, rfl, h b' t' k (by rw [e, hb.ints])⟩
theorem joinMethod {M : Model} {b : Array UInt8} {t : Tok} {pl : Sem Bool} {Q : Value × List Value → Shared → Prop} (h : Q (.builtin "bytes.join", [.bytes b t]) s) : wpAny M A (getMethod (.bytes b t) (Str.ofString "join") pl) Q E s :=
  KBd.method_of (.bytes b t) (typeIs_bytes _ _ _) slot_join type_join KBd.noRef h
end
end BJ

section
variable {prog : Program} {w : World} {A : Around} {E : Value → Shared → Prop} {s : Shared} {env : Env} {h₀ : Heap} {x : Str} {body : List Stmt} {Q : Flow → Shared → Prop}
/-- a turn's end whose ledger may stand at other addresses -/
def KsgEnd {σ : Type} (h₀ : Heap) (L : Addr) (Led : σ → List (Addr × Obj)) (ps : σ → List (Str × Value)) (Facts : σ → Prop) (x : Str) (stored : List Str) (m₀ : Str → Option Value) (P : List Int → σ → Prop) (pre : List Int) (own : List (Addr × Obj)) (s₁ s₂ : Shared) : Prop :=
  ∃ (c' : σ) (h' : Heap) (tk : Nat) (m' : Str → Option Value) (news' : List (Addr × Obj)), s₂ = { s₁ with heap := h', toks := tk } ∧ Fr h₀ L h' m' ∧ News h₀ L h' news' ∧ (∀ p ∈ Led c', p ∈ news') ∧ (∀ p ∈ own, p ∈ news') ∧ OwnOff own ((Led c').map (·.1)) ∧
    Facts c' ∧ (∀ p ∈ ps c', m' p.1 = some p.2) ∧ (∀ z, z ≠ x → (∀ p ∈ ps c', z ≠ p.1) → stored.contains z = false → m' z = m₀ z) ∧ P pre c'
def KsgPost {σ : Type} (h₀ : Heap) (L : Addr) (Led : σ → List (Addr × Obj)) (ps : σ → List (Str × Value)) (Facts : σ → Prop) (x : Str) (stored : List Str) (m₀ : Str → Option Value) (P : List Int → σ → Prop) (pre : List Int) (own : List (Addr × Obj)) (s₁ : Shared) (Q : Flow → Shared → Prop) (f : Flow) (s₂ : Shared) : Prop :=
  match f with
  | .ret v => Q (.ret v) s₂
  | .brk => Q .next s₂
  | _ => KsgEnd h₀ L Led ps Facts x stored m₀ P pre own s₁ s₂
theorem ksg_end {σ : Type} {Led : σ → List (Addr × Obj)} {ps : σ → List (Str × Value)} {Facts : σ → Prop} {stored : List Str} {m₀ m' : Str → Option Value} {P : List Int → σ → Prop} {pre : List Int} {L : Addr} {own news' : List (Addr × Obj)} {s₁ : Shared} {h' : Heap} {tk : Nat} (c' : σ)
    (F : Fr h₀ L h' m') (N : News h₀ L h' news') (hn : ∀ p ∈ Led c', p ∈ news') (ho : ∀ p ∈ own, p ∈ news') (ha : OwnOff own ((Led c').map (·.1))) (hf : Facts c') (hk : ∀ p ∈ ps c', m' p.1 = some p.2) (hr : ∀ z, z ≠ x → (∀ p ∈ ps c', z ≠ p.1) → stored.contains z = false → m' z = m₀ z) (hp : P pre c') :
    KsgEnd h₀ L Led ps Facts x stored m₀ P pre own s₁ { s₁ with heap := h', toks := tk } := ⟨c', h', tk, m', news', rfl, F, N, hn, ho, ha, hf, hk, hr, hp⟩
set_option maxHeartbeats 4000000 in
/-- a for over a list of ints that the frame itself made -/
theorem ksg_list {σ : Type} {l : Addr} {vs : List Value} {ns : List Int} {nn : Nat} {m₀ : Str → Option Value} (Led : σ → List (Addr × Obj)) (ps : σ → List (Str × Value)) (Facts : σ → Prop) (stored : List Str) (P : List Int → σ → Prop) (c₀ : σ)
    (hh : A.handled = none) (hl : ∀ c : σ, (l, W.listOf vs.toArray nn) ∈ Led c) (hi : IntsAre vs ns) (F : Fr h₀ env.locals s.heap m₀) (N : News h₀ env.locals s.heap (Led c₀)) (hf : Facts c₀) (hk : ∀ p ∈ ps c₀, m₀ p.1 = some p.2) (hp : P [] c₀)
    (turn : ∀ (c : σ) pre post n t (u : Str → Option Value) h tk own, ns = pre ++ n :: post → OwnOff own ((Led c).map (·.1)) → Facts c → P pre c →
      Fr h₀ env.locals h (fun y => if y = x then some (.int n t) else kstB (fun z => if stored.contains z then u z else m₀ z) (ps c) y) → News h₀ env.locals h (Led c ++ own) →
      wpAny (model prog w) A (execs body env) (KsgPost h₀ env.locals Led ps Facts x stored m₀ P (pre ++ [n]) own { s with heap := h, toks := tk } Q) E { s with heap := h, toks := tk })
    (done : ∀ (c : σ) (u : Str → Option Value) h tk, Facts c → P ns c → Fr h₀ env.locals h (fun y => if y = x then u y else kstB (fun z => if stored.contains z then u z else m₀ z) (ps c) y) → News h₀ env.locals h (Led c) → Q .next { s with heap := h, toks := tk }) :
    wpAny (model prog w) A (pyIter (.ref l)) (fun it s₂ => LoopAtV prog w A h₀ env x body Q E it s₂) E s := by
  have hol : s.heap.get? l = some (W.listOf vs.toArray nn) := (N _ (hl c₀)).1
  have hls : s.heap.IsList l vs.toArray := ⟨_, hol, rfl, nn, rfl⟩
  have hne : l ≠ s.heap.objs.size := Nat.ne_of_lt (Heap.lt_size hol)
  refine wpAny_pyIter_list hls ?_
  have Wk := Walks.list (prog := prog) (w := w) hh s.heap.objs.size l hne vs.toArray
  have hlen : vs.toArray.size = ns.length := by simp [hi.length]
  rw [hlen] at Wk
  refine ⟨_, _, _, ns.length, _, _, m₀, Led c₀, (fun i m nx => KstS Led ps Facts x stored m₀ P (ns.take i) m nx), rfl, Wk, ?_, ?_, ?_, ⟨⟨_, Heap.get?_push_size _ rfl, rfl, rfl⟩, hls.at fun o e => Heap.get?_push_of_some _ e⟩, F.push _, (fun p hp => ⟨Heap.get?_push_of_some _ (N p hp).1, (N p hp).2⟩), ⟨c₀, rfl, hf, hk, fun _ _ _ _ => rfl, by simpa using hp⟩, ?_, ?_⟩
  · intro hm
    rcases List.mem_cons.mp hm with e | hm
    · exact absurd F.ns.lt (e ▸ Nat.lt_irrefl _)
    · exact (N _ (hl c₀)).2.1 ((List.mem_singleton.mp hm).symm)
  · intro b hb
    rw [List.mem_singleton.mp hb]
    exact next_is_new F
  · intro p hp hI
    exact absurd (Heap.lt_size (N p hp).1) ((List.mem_singleton.mp hI) ▸ Nat.lt_irrefl _)
  · rintro i v m₁ news₁ s₁ own ⟨hh', tk', rfl⟩ hin hP ⟨c, rfl, hf', h1, h2, hp'⟩ hoff hown hget hfp hst F₁ N₁
    obtain ⟨oI, heI, _⟩ := hst.1
    have hmI : (s.heap.objs.size, oI) ∈ own := hfp _ (.head _) (next_is_new F) _ heI
    have hmF : (s.heap.objs.size, oI) ∈ own.filter fun p => decide (p.1 = s.heap.objs.size) := List.mem_filter.mpr ⟨hmI, by simp⟩
    have hsep : OwnOff (own.filter fun p => decide (p.1 = s.heap.objs.size)) ((Led c).map (·.1)) := by
      intro p hp b hb e
      obtain ⟨q, hq, rfl⟩ := List.mem_map.mp hb
      have h1 : p.1 = s.heap.objs.size := by simpa using (List.mem_filter.mp hp).2
      exact hoff q hq (List.mem_singleton.mpr (e.symm.trans h1))
    have hlt' : i < ns.length := hin
    obtain ⟨t, hx⟩ := hi.get i ns[i] (List.getElem?_eq_getElem hlt')
    have hv : v = .int ns[i] t := by
      have hP' : vs[i]? = some v := by simpa using hP
      rw [hx] at hP'; exact (Option.some.inj hP').symm
    subst hv
    have hk' : ns[i]? = some ns[i] := List.getElem?_eq_getElem hlt'
    have hs : ns.take (i + 1) = ns.take i ++ [ns[i]] := by rw [List.take_add_one, hk']; rfl
    have he : ns = ns.take i ++ ns[i] :: ns.drop (i + 1) := by
      have ht := List.take_append_drop (i + 1) ns
      rw [hs, List.append_assoc] at ht
      exact ht.symm
    have N₂ : News h₀ env.locals hh' (Led c ++ own.filter fun p => decide (p.1 = s.heap.objs.size)) := fun p hp => N₁ p ((List.mem_append.mp hp).elim (fun h => List.mem_append.mpr (.inr h)) fun h => List.mem_append.mpr (.inl ((List.mem_filter.mp h).1)))
    have hlo : hh'.get? l = some (W.listOf vs.toArray nn) := (N₁ _ (List.mem_append.mpr (.inr (hl c)))).1
    refine wpAny_mono (turn c (ns.take i) (ns.drop (i + 1)) ns[i] t m₁ hh' tk' _ he hsep hf' hp' (kst_fr h1 h2 F₁) N₂) (fun f s₂ p => ?_) fun _ _ e => e
    have fin : KsgEnd h₀ env.locals Led ps Facts x stored m₀ P (ns.take i ++ [ns[i]]) (own.filter fun p => decide (p.1 = s.heap.objs.size)) { s with heap := hh', toks := tk' } s₂ →
        LoopStepU h₀ env.locals [s.heap.objs.size] own (fun m nx => KstS Led ps Facts x stored m₀ P (ns.take (i + 1)) m nx) { s with heap := hh', toks := tk' } .next s₂ := by
      rintro ⟨c', h', tk, m', news', e, F', N', hn, ho, ha, hf9, hk9, hr9, hp9⟩
      refine ⟨rfl, h', tk, m', Led c', e, F', fun p hp => ?_, fun p hp => ?_, c', rfl, hf9, hk9, hr9, hs ▸ hp9⟩
      · rcases List.mem_append.mp hp with h | h
        · by_cases hI : p.1 = s.heap.objs.size
          · exact N' p (ho p (List.mem_filter.mpr ⟨h, by simpa using hI⟩))
          · have h1 : p.1 = l := by
              rcases List.mem_cons.mp (hown p h) with h2 | h2
              · exact absurd h2 hI
              · exact List.mem_singleton.mp h2
            have h2 : hh'.get? p.1 = some p.2 := hget p h
            rw [h1, hlo] at h2
            have h3 : p = (l, W.listOf vs.toArray nn) := Prod.ext h1 (Option.some.inj h2).symm
            rw [h3]
            exact N' _ (hn _ (hl c'))
        · exact N' p (hn p h)
      · intro hI
        exact ha _ hmF p.1 (List.mem_map_of_mem hp) (List.mem_singleton.mp hI).symm
    cases f with
    | ret v => exact .ret p
    | brk => exact .brk p
    | next => exact .next (fin p)
    | cont => exact .cont (fin p)
  · rintro h' tk m' news' F' N' _ ⟨c, rfl, hf', h1, h2, hp'⟩
    rw [List.take_length] at hp'
    exact done c m' h' tk hf' hp' (kst_frOut h1 h2 F') N'
end

section
variable {prog : Program} {w : World} {A : Around} {E : Value → Shared → Prop} {s : Shared}
theorem list_no_keys : typeLookup (.type "list") "keys" = pure none := by rw [typeLookup_type, builtinLookup_eq_fast]; kernel_rfl
theorem keys_miss_list {a : Addr} {o : Obj} {xs : Array Value} {k : Nat} {Q : Option Value → Shared → Prop}
    (hx : s.heap.get? a = some o) (hc : o.cls = .type "list") (hdat : o.data = .seq xs k) (hd : o.dict = none) (hA : A.handled = none)
    (h : ∀ h' tk, (∀ b o, s.heap.get? b = some o → h'.get? b = some o) → Q none { s with heap := h', toks := tk }) :
    wpAny (model prog w) A (getAttr? (.ref a) "keys") Q E s := by
  obtain ⟨c, dct, dat, sl⟩ := o
  simp only at hc hdat hd
  subst hc hdat hd
  obtain ⟨hp, g, d, tk, os⟩ := s
  have hT : ∀ tk', (⟨hp, g, d, tk', os⟩ : Shared).TypeIs (.ref a) "list" := fun _ => ⟨_, hx, rfl⟩
  have f1 := sub_AttributeError
  have f3 := F.slot_list_getattribute.lookup
  have f4 := F.slot_list_getattribute.bind (.ref a)
  have f5 := am_list_getattr_none
  unfold getAttr? getAttrBy? getAttrBy
  repeat (any_goals (first | assumption | exact hT _ | ((with_reducible show wpAny _ _ (call (Value.builtin "list.__getattribute__") _ _) _ _ _); refine call_meets F.slot_list_getattribute (hT _) am_entry_list_getattribute (F.args_list_getattribute_2 _ _) (meets_getattribute_miss_list a xs k sl "keys" _ list_no_keys (by decide) (by size_fits)) ⟨hx, hA, fun h' tk' e hx' => ?_⟩) | wp_step))
  obtain ⟨t', u', he⟩ := hx'.there
  show wpAny _ _ (getattributeRaised _ _ _ _ _ _ _) _ _ _
  unfold getattributeRaised
  repeat (any_goals (first | assumption | wp_step))
  exact h _ _ hx'.of.keeps
end

section
variable {prog : Program} {w : World} {K : Type} [DecidableEq K] {knd : KeyKind prog w K} {A : Around} {E : Value → Shared → Prop}
theorem entry_dict_loop : entryFor table "dict.update.loop" = some Builtin.«dict.update.loop» := entryFor_of_tree (by kernel_rfl)
def PairsAt (knd : KeyKind prog w K) (h : Heap) (d I : Addr) (its : Array Value) (ps : List (K × Value)) : Prop :=
  its.size = ps.length ∧ ∀ (j : Nat) (k : K) (v : Value), ps[j]? = some (k, v) → ∃ T key, its[j]? = some (Value.ref T) ∧ h.IsTuple T #[key, v] ∧ knd.is k key = true ∧ T ≠ d ∧ T ≠ I
theorem pairs_loop {d I ax : Addr} {its : Array Value} {ps : List (K × Value)} (hA : A.handled = none) (hId : I ≠ d) (hax : ax ≠ d) (hne : ax ≠ I) (hps : ps.length ≤ 4096) {R : Result → Shared → Prop} :
    ∀ (j i : Nat) (kvs : List (K × Value)) (s : Shared), i + j = ps.length → kvs.length ≤ i → s.heap.DictOf knd d kvs → s.heap.IsListIter I ax i → s.heap.IsList ax its → PairsAt knd s.heap d I its ps →
    (∀ h' tk, h'.DictOf knd d (merged kvs (ps.drop i)) → (∀ b o, b ≠ I → b ≠ d → s.heap.get? b = some o → h'.get? b = some o) → R (.ok (.ret .none)) { s with heap := h', toks := tk }) →
    codeAny (model prog w) A (.builtin "dict.update.loop" ⟨[.ref d, .ref I, rawInt i, .none], []⟩) R s := by
  intro j
  induction j with
  | zero =>
    intro i kvs s hi hkl hD hI hax' hP hR
    have hin : i = ps.length := by omega
    refine codeAny_builtin entry_dict_loop ?_
    have W := Walks.list (prog := prog) (w := w) (A := A.under (.builtin "dict.update.loop" ⟨[.ref d, .ref I, rawInt i, .none], []⟩)) hA I ax hne its
    unfold Builtin.«dict.update.loop»
    refine wpAny_bind (W.done _ _ _ (by rw [hP.1, ← hin]; exact ⟨hI, hax'⟩) fun h' tk k => ?_)
    refine wpAny_bind (wpAny_pure (wpAny_pure ?_))
    refine hR h' tk ?_ fun b o h1 h2 e => k b o (by simp [h1]) e
    rw [hin, List.drop_length]
    obtain ⟨o, es, ep, ho, r⟩ := hD
    exact ⟨o, es, ep, k _ _ (by simp [Ne.symm hId]) ho, r⟩
  | succ j ih =>
    intro i kvs s hi hkl hD hI hax' hP hR
    refine codeAny_builtin entry_dict_loop ?_
    have W := Walks.list (prog := prog) (w := w) (A := A.under (.builtin "dict.update.loop" ⟨[.ref d, .ref I, rawInt i, .none], []⟩)) hA I ax hne its
    unfold Builtin.«dict.update.loop»
    refine wpAny_bind (W.item i _ _ _ (by rw [hP.1]; omega) ⟨hI, hax'⟩ fun v h₁ tk₁ hv hst k₁ => ?_)
    obtain ⟨⟨kk, vv⟩, hkv⟩ : ∃ p, ps[i]? = some p := ⟨ps[i], List.getElem?_eq_getElem (by omega)⟩
    obtain ⟨T, key, hT, htup, hkey, hTd, hTI⟩ := hP.2 i kk vv hkv
    rw [hT] at hv; cases hv
    have k₁' : ∀ b o, b ≠ I → s.heap.get? b = some o → h₁.get? b = some o := fun b o hb e => k₁ b o (by simp [hb]) e
    have hD₁ : h₁.DictOf knd d kvs := by
      obtain ⟨o, es, ep, ho, r⟩ := hD
      exact ⟨o, es, ep, k₁' _ _ (Ne.symm hId) ho, r⟩
    have htup₁ : h₁.IsTuple T #[key, vv] := by
      obtain ⟨o, ho, r⟩ := htup
      exact ⟨o, k₁' _ _ hTI ho, r⟩
    dsimp only
    refine wpAny_bind (wpAny_holding (wpAny_bind (wpAny_tryCatch ?_)))
    unfold Builtin.Dict.pairItems
    obtain ⟨oT, hoT, hcT, nT, hdT⟩ := htup₁
    refine wpAny_bind (wpAny_typeOf (T := "tuple") ⟨oT, hoT, hcT⟩ ?_)
    simp only [show ((Value.type "tuple" == Value.type "list") || (Value.type "tuple" == Value.type "tuple")) = true from by decide, if_true]
    refine wpAny_bind ?_
    unfold seqItems?
    refine wpAny_bind (wpAny_load hoT ?_)
    simp only [hdT]
    refine wpAny_pure (wpAny_pure ?_)
    show wpAny _ _ (holding [key, vv] (dictSet d key vv)) _ _ _
    refine wpAny_holding (wpAny_dictSet_pairs hkey hD₁ (fun h₂ hD₂ hs₂ => ?_) (by rw [sizeLine_eq]; omega))
    refine wpAny_pure ⟨Code.quiet_builtin _ (by decide +kernel), ?_⟩
    have e2 : ∀ b o, b ≠ d → h₁.get? b = some o → h₂.get? b = some o := fun b o hb e => hs₂.extBut b o hb e
    have hst' := hst
    refine ih (i + 1) (stored kvs kk vv) _ (by omega) (by have := stored_length_le kvs kk vv; omega) hD₂ ?_ ?_ ⟨hP.1, fun j k v hj => ?_⟩ fun h' tk hD' hk' => ?_
    · obtain ⟨o, ho, r⟩ := hst.1
      exact ⟨o, e2 _ _ hId ho, r⟩
    · obtain ⟨o, ho, r⟩ := hst.2
      exact ⟨o, e2 _ _ hax ho, r⟩
    · obtain ⟨T', key', hT', ⟨o, ho, r⟩, hkey', hTd', hTI'⟩ := hP.2 j k v hj
      exact ⟨T', key', hT', ⟨o, e2 _ _ hTd' (k₁' _ _ hTI' ho), r⟩, hkey', hTd', hTI'⟩
    · refine hR h' tk ?_ fun b o h1 h2 e => hk' b o h1 h2 (e2 b o h2 (k₁' b o h1 e))
      have e : ps.drop i = (kk, vv) :: ps.drop (i + 1) := by
        rw [List.drop_eq_getElem_cons (by omega)]
        congr 1
        have := List.getElem?_eq_getElem (l := ps) (i := i) (by omega)
        rw [this] at hkv; exact Option.some.inj hkv
      rw [e]
      exact hD'
end

section
variable {prog : Program} {w : World} {K : Type} [DecidableEq K] {knd : KeyKind prog w K} {A : Around} {E : Value → Shared → Prop} {s : Shared}
theorem call_dict_pairs {l : Addr} {o : Obj} {its : Array Value} {k : Nat} {ps : List (K × Value)} {Q : Value → Shared → Prop} (hA : A.handled = none)
    (hx : s.heap.get? l = some o) (hc : o.cls = .type "list") (hdat : o.data = .seq its k) (hd : o.dict = none) (hps : ps.length ≤ 4096) (hsz : its.size = ps.length)
    (hP : ∀ (j : Nat) (k : K) (v : Value), ps[j]? = some (k, v) → ∃ T key, its[j]? = some (Value.ref T) ∧ s.heap.IsTuple T #[key, v] ∧ knd.is k key = true)
    (h : ∀ h' tk, (∀ b o, s.heap.get? b = some o → h'.get? b = some o) → h'.DictOf knd s.heap.objs.size (merged [] ps) → Q (.ref s.heap.objs.size) { s with heap := h', toks := tk }) :
    wpAny (model prog w) A (call (.type "dict") [.ref l]) Q E s := by
  refine callType_codes (Q₁ := fun obj s₁ => obj = .ref s.heap.objs.size ∧ s₁ = { s with heap := s.heap.push { cls := .type "dict", data := .dict #[] } }) F.kt_called_dict (F.kt_typeCall_dict_1 _) F.entry_dict_init (kt_code_dict_new _ ⟨rfl, rfl⟩) ?_
  rintro obj s₁ ⟨rfl, rfl⟩
  have hnew : (s.heap.push { cls := .type "dict", data := .dict #[] }).DictOf knd s.heap.objs.size [] := Heap.DictOf.new s.heap
  have up : ∀ b o, s.heap.get? b = some o → (s.heap.push { cls := .type "dict", data := .dict #[] }).get? b = some o := fun b o e => Heap.get?_push_of_some _ e
  have hfresh : ∀ b o, s.heap.get? b = some o → b ≠ s.heap.objs.size := fun b o e => Nat.ne_of_lt (Heap.lt_size e)
  refine ⟨hnew.typeIs, F.args_dict_init_2 _ _, ?_⟩
  unfold Builtin.«dict.__init__»
  refine wpAny_bind ?_
  unfold Builtin.Dict.selfAndRest
  refine wpAny_bind (wpAny_notOrdered_dict hnew.typeIs ?_)
  show wpAny _ _ (pure (s.heap.objs.size, [Value.ref l])) _ _ _
  refine wpAny_pure ?_
  show wpAny _ _ (Builtin.Dict.updateFrom "dict.__init__" s.heap.objs.size (.ref l) [] .none) _ _ _
  unfold Builtin.Dict.updateFrom
  refine wpAny_bind (wpAny_typeOf (T := "list") ⟨o, up _ _ hx, hc⟩ ?_)
  rw [if_pos (by decide)]
  refine wpAny_bind (keys_miss_list (up _ _ hx) hc hdat hd hA fun h₁ tk₁ k₁ => ?_)
  rw [if_pos (by rfl)]
  refine wpAny_bind (wpAny_rule ?_)
  have hl₁ : h₁.IsList l its := ⟨o, k₁ _ _ (up _ _ hx), hc, k, hdat⟩
  refine wpAny_bind (wpAny_pyIter_list hl₁ ?_)
  have hD₁ : h₁.DictOf knd s.heap.objs.size [] := by
    obtain ⟨o, es, ep, ho, r⟩ := hnew
    exact ⟨o, es, ep, k₁ _ _ ho, r⟩
  have hdI : s.heap.objs.size ≠ h₁.objs.size := by
    obtain ⟨o, es, ep, ho, r⟩ := hD₁
    exact Nat.ne_of_lt (Heap.lt_size ho)
  have hlt : ∀ b o, s.heap.get? b = some o → b ≠ h₁.objs.size := fun b o e => Nat.ne_of_lt (Heap.lt_size (k₁ _ _ (up _ _ e)))
  refine wpAny_pure ⟨Code.quiet_builtin _ (by decide +kernel), ?_⟩
  refine pairs_loop (A := A.in1) (knd := knd) (ax := l) (its := its) (ps := ps) (show A.in1.handled = none from hA) (Ne.symm hdI) (hfresh _ _ hx) (hlt _ _ hx) hps ps.length 0 [] _ (by simp) (Nat.le_refl _) ?_ ?_ ?_ ⟨hsz, fun j kk v hj => ?_⟩ fun h' tk hD' hk' => ?_
  · exact hD₁.push _
  · exact ⟨_, Heap.get?_push_size _ rfl, rfl, rfl⟩
  · exact hl₁.push _
  · obtain ⟨T, key, hT, ⟨oT, hoT, r⟩, hkey⟩ := hP j kk v hj
    exact ⟨T, key, hT, ⟨oT, Heap.get?_push_of_some _ (k₁ _ _ (up _ _ hoT)), r⟩, hkey, hfresh _ _ hoT, hlt _ _ hoT⟩
  · refine ⟨rfl, h h' tk (fun b o e => hk' b o (hlt _ _ e) (hfresh _ _ e) (Heap.get?_push_of_some _ (k₁ _ _ (up _ _ e)))) ?_⟩
    · rw [List.drop_zero] at hD'; exact hD'
end

section
variable {prog : Program} {w : World} {K : Type} [DecidableEq K] {knd : KeyKind prog w K} {A : Around} {E : Value → Shared → Prop} {s : Shared} {h₀ : Heap} {L : Addr} {m : Str → Option Value} {news : List (Addr × Obj)}
theorem dict_pairsN {l : Addr} {ys : List Value} {ps : List (K × Value)} {Q : Value → Shared → Prop} (hA : A.handled = none) (F : Fr h₀ L s.heap m) (N : News h₀ L s.heap news) (hbig : h₀.NoLimit)
    (hm : (l, LCg.lst ys) ∈ news) (hps : ps.length ≤ 4096) (hsz : ys.length = ps.length)
    (hP : ∀ (j : Nat) (k : K) (v : Value), ps[j]? = some (k, v) → ∃ T key o n, ys[j]? = some (Value.ref T) ∧ (T, o) ∈ news ∧ o.cls = .type "tuple" ∧ o.data = .seq #[key, v] n ∧ knd.is k key = true)
    (h : ∀ d h' tk o, Fr h₀ L h' m → News h₀ L h' ((d, o) :: news) → o.IsDictOf knd (merged [] ps) → (d == sysModules) = false → (∀ p ∈ news, p.1 ≠ d) → Q (.ref d) { s with heap := h', toks := tk }) :
    wpAny (model prog w) A (call (.type "dict") [.ref l]) Q E s := by
  refine call_dict_pairs (knd := knd) (its := ys.toArray) (ps := ps) hA (N _ hm).1 rfl rfl rfl hps (by simpa using hsz) (fun j k v hj => ?_) fun h' tk k₁ hD => ?_
  · obtain ⟨T, key, o, n, hT, hTm, hc, hd, hk⟩ := hP j k v hj
    exact ⟨T, key, by simpa using hT, ⟨o, (N _ hTm).1, hc, n, hd⟩, hk⟩
  · obtain ⟨o, ho, hd'⟩ := Heap.dictOf_iff.mp hD
    have hn : s.heap.get? s.heap.objs.size = none := by
      cases q : s.heap.get? s.heap.objs.size with
      | none => rfl
      | some o => exact absurd (Heap.lt_size q) (Nat.lt_irrefl _)
    have F' : Fr h₀ L h' m := by
      obtain ⟨oL, es, ep, hL, hLd, hLk, hLf⟩ := F.ns
      exact ⟨⟨oL, es, ep, k₁ _ _ hL, hLd, hLk, hLf⟩, fun b o e => k₁ _ _ (F.keep b o e), F.above⟩
    refine h _ h' tk o F' (fun p hp => ?_) hd' (F.notModules (modules_low hbig)) fun p hp q => ?_
    · rcases List.mem_cons.mp hp with rfl | hp
      · refine ⟨ho, ?_, ?_⟩
        · intro q
          have q' : s.heap.objs.size = L := q
          obtain ⟨oL, _, _, hL, _⟩ := F.ns
          rw [← q', hn] at hL; cases hL
        · cases q : h₀.get? s.heap.objs.size with
          | none => rfl
          | some o' => rw [F.keep _ _ q] at hn; cases hn
      · exact ⟨k₁ _ _ (N p hp).1, (N p hp).2⟩
    · have z := (N p hp).1
      rw [q, hn] at z; cases z
end
namespace Gr
open LCg
section
variable {prog : Program} {w : World} {A : Around} {E : Value → Shared → Prop} {s : Shared} {h₀ : Heap} {L : Addr} {m : Str → Option Value} {env : Env} {elt : Expr} {x : Str} {scope : Scope} {cl : List (Str × Addr)} {news : List (Addr × Obj)}
theorem comp_grow {S : List (Addr × Obj) → Prop} {P : Nat → Value → Prop} {Fi : List Value → List (Addr × Obj) → Prop} {n : Nat} (J : Nat → List Value → List (Addr × Obj) → Prop)
    (turn : ∀ i v I oI C oC D m₂ ys news h tk (E' : Value → Shared → Prop), i < n → P i v → J i ys news → NsObj oC m₂ → m₂ x = some v → Fr h₀ L h m → News h₀ L h ((I, oI) :: (C, oC) :: (D, lst ys) :: news) → Off3 I C D news → ((@Ne Nat I C) ∧ (@Ne Nat I D) ∧ (@Ne Nat C D)) →
      wpAny (model prog w) A (eval elt (compEnvC scope cl C env)) (CompEnd h₀ L m { s with heap := h, toks := tk } I oI C oC D (lst ys) S (fun y news' => J (i + 1) (ys ++ [y]) news')) E' { s with heap := h, toks := tk })
    (hJ : J 0 [] news) (fin : ∀ ys nw, J n ys nw → Fi ys nw) : CompRest prog w A h₀ L m env elt x scope cl s S P Fi n 0 [] news := by
  have key : ∀ (j i : Nat) (ys : List Value) (nw : List (Addr × Obj)), i + j = n → J i ys nw → CompRest prog w A h₀ L m env elt x scope cl s S P Fi j i ys nw := by
    intro j
    induction j with
    | zero =>
      intro i ys nw hi hy
      obtain rfl : i = n := by omega
      exact CompRest.zero (fin _ _ hy)
    | succ j ih =>
      intro i ys nw hi hy
      refine CompRest.succ ?_
      intro v I oI C oC D m₂ h tk E' hv hC hx F N off ne
      refine wpAny_mono (turn i v I oI C oC D m₂ ys nw h tk E' (by omega) hv hy hC hx F N off ne) (fun y s₂ hq => ?_) fun _ _ e => e
      obtain ⟨h', tk', nw', e, F', N', off', hS, hg⟩ := hq
      exact ⟨h', tk', nw', e, F', N', off', hS, ih (i + 1) _ _ (by omega) hg⟩
  exact key n 0 [] news (by omega) hJ
end
end Gr

abbrev ar (dp un : Nat) (gd : Option (List Code)) (outer : List Env) : Around := { handled := none, depth := dp, frames := some outer, guards := gd, units := un }
structure Sit (p : Program) (lz : List Str) (w : World) (mean : ExcName → Option Value) (mg mb : Str → Option Value) (dp un : Nat) (gd : Option (List Code)) (base : Heap) (outer : List Env) (n : Nat) (h : Heap) : Prop where
  kin : (hd.heap_39 w.params).In h
  top : Top p lz mean mg mb h
  below : Below (ar dp un gd outer) base outer h
  room : dp + n < recursionLimit
  units : un + 10 * n < cLine

section
variable {prog p : Program} {lz : List Str} {w : World} {mean : ExcName → Option Value} {mg mb : Str → Option Value} {dp un : Nat} {gd : Option (List Code)} {base : Heap} {outer : List Env} {n : Nat}
  {Q E : Value → Shared → Prop} {s : Shared} {h₀ : Heap} {L a : Addr} {m : Str → Option Value} {cn : Str} {cs : Scope} {ccd : Value} {news : List (Addr × Obj)}

theorem Sit.use (B : Below (ar dp un gd outer) base outer h₀) (F : Fr h₀ L s.heap m) (X : (hd.heap_39 w.params).In h₀) (T : Top p lz mean mg mb h₀)
    (room : dp + (n + 1) < recursionLimit) (units : un + 10 * (n + 1) < cLine) (hk : cs.kind = .function := by rfl) :
    Sit p lz w mean mg mb (dp + 1) (un + 3) gd base (envOf cn cs L a ccd :: outer) n s.heap :=
  ⟨X.keeps F.keep, T.keeps F.keep, B.push F hk, by omega, by omega⟩

theorem fr_stays {h h' : Heap} (F : Fr h₀ L h m) (k : h.StaysIn h') : Fr h₀ L h' m := by
  obtain ⟨oL, es, ep, hL, hLd, hLk, hLf⟩ := F.ns
  exact ⟨⟨oL, es, ep, k _ _ hL, hLd, hLk, hLf⟩, fun b o e => k _ _ (F.keep b o e), F.above⟩
theorem news_stays {h h' : Heap} (N : News h₀ L h news) (k : h.StaysIn h') : News h₀ L h' news := fun p hp => ⟨k _ _ (N p hp).1, (N p hp).2⟩

abbrev retTo (Q E : Value → Shared → Prop) : Result → Shared → Prop := fun r s' => match r with | .ok (.ret v) => Q v s' | .ok _ => False | .error e => E e s'

theorem enterS {name qual : Str} {params : Arguments} {body : List Stmt} {scope : Scope} {dV kV doc pm cdv ct oc : Value} {an od : Option Addr} {osl : Array (Option Value)} {f : Addr} {args : List Value} {binds : List (Str × Value)}
    (S : Sit p lz w mean mg mb dp un gd base outer (n + 1) s.heap)
    (ho : (hd.heap_39 w.params).lookup f = some ⟨oc, od, .func (fnOf name qual params body scope dV kV doc pm an cdv ct), osl⟩) (hcd : codeIn (hd.heap_39 w.params) cdv qual = true)
    (hbind : BindsTo s (fnOf name qual params body scope dV kV doc pm an cdv ct) ⟨args, []⟩ binds) (hloc : ∀ y ∈ binds, scope.names.lookup y.1 = some .local)
    (hco : scope.isCoroutine = false) (hgen : scope.isGenerator = false) (hk : scope.kind = .function)
    (hcell : ∀ x ∈ scope.names, x.2 ≠ .cell)
    (h : ∀ L' h₁, Fr s.heap L' h₁ (fun y => binds.reverse.lookup y) → News s.heap L' h₁ [] → Below (ar dp un gd outer) base outer s.heap → (hd.heap_39 w.params).In s.heap → Top p lz mean mg mb s.heap →
      dp + (n + 1) < recursionLimit → un + 10 * (n + 1) < cLine →
      wpAny (model prog w) ((ar dp un gd outer).deeper (envOf qual scope L' f cdv)) (execs body (envOf qual scope L' f cdv))
        (fun fl s' => Q (match fl with | .ret v => v | _ => .none) s')
        (fun e s' => wpAny (model prog w) ((ar dp un gd outer).deeper (envOf qual scope L' f cdv)) (leaving (envOf qual scope L' f cdv) e) (fun _ s'' => E e s'') (fun e' s'' => E e' s'') s')
        { s with heap := h₁, toks := s.toks + binds.length })
     : wpAny (model prog w) (ar dp un gd outer) (call (.ref f) args) Q E s := by
  refine wpAny_call ?_
  have T := S.top
  refine codeAny_call_def (fd := fnOf name qual params body scope dV kV doc pm an cdv ct) (body := body) (binds := binds) (by have := S.room; show dp < _; omega) (S.kin _ _ ho) rfl T.nolimit (codeRec_of S.kin hcd) rfl hbind hcell hloc (fun h₁ hns hk₁ => ?_) hco hgen hk
  have F : Fr s.heap s.heap.objs.size h₁ (fun y => binds.reverse.lookup y) := ⟨hns, hk₁, Nat.le_refl _⟩
  exact h s.heap.objs.size h₁ F News.nil S.below S.kin T S.room S.units
theorem on_enterS {name qual : Str} {params : Arguments} {body : List Stmt} {scope : Scope} {dV kV doc pm cdv ct oc : Value} {an od : Option Addr} {osl : Array (Option Value)} {f : Addr} {args : List Value} {binds : List (Str × Value)}
    (S : Sit p lz w mean mg mb dp un gd base outer (n + 1) s.heap)
    (ho : (hd.heap_39 w.params).lookup f = some ⟨oc, od, .func (fnOf name qual params body scope dV kV doc pm an cdv ct), osl⟩) (hcd : codeIn (hd.heap_39 w.params) cdv qual = true)
    (hbind : BindsTo s (fnOf name qual params body scope dV kV doc pm an cdv ct) ⟨args, []⟩ binds) (hloc : ∀ y ∈ binds, scope.names.lookup y.1 = some .local)
    (hco : scope.isCoroutine = false) (hgen : scope.isGenerator = false) (hk : scope.kind = .function)
    (hcell : ∀ x ∈ scope.names, x.2 ≠ .cell)
    (h : ∀ L' h₁, Fr s.heap L' h₁ (fun y => binds.reverse.lookup y) → News s.heap L' h₁ [] → Below (ar dp un gd outer) base outer s.heap → (hd.heap_39 w.params).In s.heap → Top p lz mean mg mb s.heap →
      dp + (n + 1) < recursionLimit → un + 10 * (n + 1) < cLine →
      wpOn (model prog w) ((ar dp un gd outer).deeper (envOf qual scope L' f cdv)) (execs body (envOf qual scope L' f cdv))
        (fun fl s' => Q (match fl with | .ret v => v | _ => .none) s') noE
        { s with heap := h₁, toks := s.toks + binds.length })
     : wpOn (model prog w) (ar dp un gd outer) (call (.ref f) args) Q noE s := by
  refine on_call ?_
  have T := S.top
  refine codeOn_def (fd := fnOf name qual params body scope dV kV doc pm an cdv ct) (body := body) (binds := binds) (by have := S.room; show dp < _; omega) (S.kin _ _ ho) rfl T.nolimit (codeRec_of S.kin hcd) rfl hbind hcell hloc hco hgen hk (fun h₁ hns hk₁ => ?_)
  have F : Fr s.heap s.heap.objs.size h₁ (fun y => binds.reverse.lookup y) := ⟨hns, hk₁, Nat.le_refl _⟩
  exact h s.heap.objs.size h₁ F News.nil S.below S.kin T S.room S.units
end

section
variable {prog p : Program} {lz : List Str} {w : World} {mean : ExcName → Option Value} {mg mb : Str → Option Value} {dp un : Nat} {gd : Option (List Code)} {base : Heap} {outer : List Env} {n : Nat}
  {Q E : Value → Shared → Prop} {s : Shared}
theorem enterC {name qual : Str} {params : Arguments} {body : List Stmt} {scope : Scope} {dV kV doc pm cdv ct oc : Value} {an od : Option Addr} {osl : Array (Option Value)} {f : Addr} {args : List Value} {binds : List (Str × Value)}
    (S : Sit p lz w mean mg mb dp un gd base outer (n + 1) s.heap)
    (ho : (hd.heap_39 w.params).lookup f = some ⟨oc, od, .func (fnOf name qual params body scope dV kV doc pm an cdv ct), osl⟩) (hcd : codeIn (hd.heap_39 w.params) cdv qual = true)
    (hbind : BindsTo s (fnOf name qual params body scope dV kV doc pm an cdv ct) ⟨args, []⟩ binds) (hkind : (binds.all fun y => scope.names.lookup y.1 == some .local || scope.names.lookup y.1 == some .cell) = true)
    (hnd : ((cellsFrom 0 scope.names []).map (·.1)).Nodup)
    (hco : scope.isCoroutine = false) (hgen : scope.isGenerator = false) (hk : scope.kind = .function)
    (h : ∀ L' h₁ tk cells, Fr s.heap L' h₁ (bindL (envOfC qual scope L' f cdv).kindOf binds fun _ => none) → News s.heap L' h₁ cells →
      CellsAre (bindC (envOfC qual scope L' f cdv).kindOf binds fun _ => none) (cellsFrom (L' + 1) scope.names []) cells → Below (ar dp un gd outer) base outer s.heap → (hd.heap_39 w.params).In s.heap → Top p lz mean mg mb s.heap →
      dp + (n + 1) < recursionLimit → un + 10 * (n + 1) < cLine →
      wpAny (model prog w) ((ar dp un gd outer).deeper (envOfC qual scope L' f cdv)) (execs body (envOfC qual scope L' f cdv))
        (fun fl s' => Q (match fl with | .ret v => v | _ => .none) s')
        (fun e s' => wpAny (model prog w) ((ar dp un gd outer).deeper (envOfC qual scope L' f cdv)) (leaving (envOfC qual scope L' f cdv) e) (fun _ s'' => E e s'') (fun e' s'' => E e' s'') s')
        { s with heap := h₁, toks := tk })
     : wpAny (model prog w) (ar dp un gd outer) (call (.ref f) args) Q E s := by
  refine wpAny_call ?_
  have T := S.top
  refine codeAny_call_function (by have := S.room; show dp < _; omega) (S.kin _ _ ho) rfl hco hgen rfl (codeRec_of S.kin hcd) (hbind _ _ _ _ ?_)
  refine wpAny_newFunctionEnv_cells hk (kindsX hkind _) fun env' he s' x => ?_
  subst he
  refine ⟨T.nolimit.keeps x.toInCall.keep, codeAny_func ?_⟩
  obtain ⟨h₁, tk, rfl, _⟩ := x.done
  have hk₁ := x.toInCall.keep
  obtain ⟨cells, NC, Y⟩ := Cl.news (h₀ := s.heap) (Nat.le_refl _) fun n c hm => ⟨x.cell n c (lookup_of_mem_nodup (cellsFrom_names scope.names 0 (s.heap.objs.size + 1) [] [] rfl ▸ hnd) hm), x.above n c hm⟩
  exact h s.heap.objs.size h₁ tk cells ⟨x.toInCall.ns, hk₁, Nat.le_refl _⟩ NC Y S.below S.kin T S.room S.units
end



section
variable {Q : Value → Shared → Prop} {s : Shared}
theorem ret_v {v v' : Value} {h' : Heap} {tk' : Nat} (hret : ∀ h' tk', s.heap.StaysIn h' → Q v { s with heap := h', toks := tk' }) (e : v' = v) (k : s.heap.StaysIn h') : Q v' { s with heap := h', toks := tk' } := e ▸ hret _ _ k
theorem ret_t {f : Tok → Value} {v' : Value} {h' : Heap} {tk' : Nat} (hret : ∀ t h' tk', s.heap.StaysIn h' → Q (f t) { s with heap := h', toks := tk' }) (e : ∃ t, v' = f t) (k : s.heap.StaysIn h') : Q v' { s with heap := h', toks := tk' } := by
  obtain ⟨t, rfl⟩ := e
  exact hret t _ _ k
end


section
variable {Q : Value → Shared → Prop} {s : Shared} {h₀ h' : Heap} {L l : Addr} {o : Obj} {m : Str → Option Value} {news : List (Addr × Obj)}
theorem news_fresh (N : News h₀ L h' ((l, o) :: news)) : h₀.get? l = none := (N _ (.head _)).2.2
theorem news_ne {h : Heap} (N : News h₀ L h news) (hn : h.get? l = none) : ∀ p ∈ news, p.1 ≠ l := fun p hp e => by
  have z := (N p hp).1
  rw [e, hn] at z; cases z
theorem upd2 {d : Addr} {o o' : Obj} {p : Addr × Obj} {r : List (Addr × Obj)} (h : p.1 ≠ d) (h2 : ∀ q ∈ r, q.1 ≠ d) : Upd d o o' (p :: (d, o) :: r) (p :: (d, o') :: r) := .tail h (.head h2)
theorem news_add {h : Heap} (F : Fr h₀ L h m) (N : News h₀ L h news) (k : h.StaysIn h') (e : h'.get? l = some o) (hn : h.get? l = none) : News h₀ L h' ((l, o) :: news) := by
  intro p hp
  rcases List.mem_cons.mp hp with rfl | hp
  · refine ⟨e, ?_, ?_⟩
    · intro q
      have q' : l = L := q
      obtain ⟨oL, _, _, hL, _⟩ := F.ns
      rw [q', hL] at hn; cases hn
    · cases q : h₀.get? l with
      | none => rfl
      | some o' => rw [F.keep _ _ q] at hn; cases hn
  · exact ⟨k _ _ (N p hp).1, (N p hp).2⟩
end

section
variable {M : Model} {A : Around} {α : Type} {Q : α → Shared → Prop} {E : Value → Shared → Prop} {s : Shared}
theorem on_if_false {x y : Sem α} (h : wpOn M A y Q E s) : wpOn M A (if false = true then x else y) Q E s := h
end
theorem shr8 (x : Int) : x.fdiv (2 ^ Int.toNat 8) = x / 256 := Int.fdiv_eq_ediv_of_nonneg _ (by decide)
theorem shr10 (x : Int) : x.fdiv (2 ^ Int.toNat 10) = x / 1024 := Int.fdiv_eq_ediv_of_nonneg _ (by decide)
theorem bitAnd_m10 (x : Int) : Builtin.bitAnd x 1023 = x % 1024 := kbt_mask x 10
theorem rangeSize_ab {a b : Int} (h : a ≤ b) : Builtin.Range.rangeSize a b 1 = b - a := by
  unfold Builtin.Range.rangeSize
  rw [if_pos (by omega)]
  split
  · rw [Int.ediv_one]; omega
  · omega
theorem small_ab {a b : Int} (ha : 0 ≤ a) (h : a ≤ b) (hb : b < 2 ^ 40) : Builtin.Range.small a b 1 = true := by
  unfold Builtin.Range.small
  rw [rangeSize_ab h]
  simp only [Builtin.Range.rangeFitsLong, Bool.and_eq_true, Bool.or_eq_true, decide_eq_true_eq, beq_iff_eq, show ((1 : Int) > 0) by decide, if_true]
  omega
theorem str_len (cs : List Nat) : ({ cps := cs.toArray } : Str).length = cs.length := by simp [Str.length]
theorem char_at {cs : List Nat} {k : Int} {i : Nat} (hk : k = i) (h : i < cs.length) : (Txt.charAt { cps := cs.toArray } k).getD 0 = cs[i] := by
  subst hk
  have e : seqIndex? (i : Int) ({ cps := cs.toArray } : Str).length = some i := by
    rw [str_len]; unfold seqIndex?
    simp; omega
  unfold Txt.charAt
  rw [e]
  simp [h]

/-- a goal at which the walk halts -/
def Halt (P : Prop) : Prop := P
theorem halt {P : Prop} (h : Halt P) : P := h
theorem unhalt {P : Prop} (h : P) : Halt P := h

local macro_rules | `(tactic| walk_at "eval ListComp") => `(tactic| (k_here; k_dflt (refine ListComp_G (by k_asm) (by with_unfolding_all rfl) (by decide) (by rfl) (by decide) (by rfl) ?_)))
local macro_rules | `(tactic| walk_at "exec Assign cons ListComp") => `(tactic| (k_here; k_dflt (refine Assign_ListComp_G (by k_asm) (by rfl) (by with_unfolding_all rfl) (by with_unfolding_all rfl) (by decide) (by rfl) (by decide) (by rfl) (by rfl) (by rfl) ?_)))
set_option hygiene false in
local macro_rules | `(tactic| walk_at "enter_c") => `(tactic| (k_dflt ((case k6 => k_is); (case k7 => k_is); (case k9 => exact BindsTo.of_eq rfl); (case kB => exact rfl); (case kD => decide +kernel); (case c2 => exact rfl); (case c3 => exact rfl); (case c4 => exact rfl)); k_whole; intro L1 h1 tk1 cells1 F1 N1 Y1 B1 X1 T1 hroom hunits; (first
  | (have hY := CellsAre.one Y1; obtain ⟨o1, hE1, d1⟩ := hY; subst hE1; clear Y1)
  | (have hY := CellsAre.two Y1; obtain ⟨o1, o2, hE1, d1, d2⟩ := hY; subst hE1; clear Y1)
  | (have hY := CellsAre.three Y1; obtain ⟨o1, o2, o3, hE1, d1, d2, d3⟩ := hY; subst hE1; clear Y1)
  | (have hY := CellsAre.four Y1; obtain ⟨o1, o2, o3, o4, hE1, d1, d2, d3, d4⟩ := hY; subst hE1; clear Y1)); (try simp only [List.cons_append, List.nil_append] at N1); (try dsimp only [List.reverse_cons, List.reverse_nil, List.nil_append, List.cons_append]); (try k_fold)))
set_option hygiene false in
local macro_rules | `(tactic| walk_at "sit") => `(tactic| ((case B => k_asm); (case F => k_asm); (case X => k_asm); (case T => k_asm); (case r => omega); (case u => omega)))
local macro_rules | `(tactic| walk_at "side") => `(tactic| first | omega | assumption | (simp only [List.length_take, List.length_drop]; omega))
local macro_rules | `(tactic| walk_at "getMethod ref") => `(tactic| (k_here; (with_reducible show wpAny _ _ (getMethod (Value.ref _) (PySem.Str.ofString "append") _) _ _ _); k_dflt (refine' BA.methodN ?N ?m BA.slot_append BA.type_append ?_; (case N => k_asm); (case m => k_mem))))
local macro_rules | `(tactic| walk_at "getMethod ref") => `(tactic| (k_here; (with_reducible show wpAny _ _ (getMethod (Value.ref _) (PySem.Str.ofString "extend") _) _ _ _); k_dflt (refine' BA.methodN ?N ?m BA.slot_extend BA.type_extend ?_; (case N => k_asm); (case m => k_mem))))
local macro_rules | `(tactic| walk_at "call type:bytes") => `(tactic| (k_here; (with_reducible show wpAny _ _ (call (Value.type "bytes") [Value.ref _]) _ _ _); k_dflt (refine' BA.bytesN ?N ?m ?z ?_; (case N => k_asm); (case m => k_mem); (case z => walk_at "size")); intro _ _))
local macro_rules | `(tactic| walk_at "size") => `(tactic| first | omega | (rw [sizeLine_eq]; omega) | (simp only [List.length_append, List.length_cons, List.length_nil, sizeLine_eq]; omega))
local macro_rules | `(tactic| walk_at "byte") => `(tactic| first | omega | (simp only [shr8, shr10, bitAnd_m8, bitAnd_m10]; omega))
local macro_rules | `(tactic| walk_at "wpOn") => `(tactic| (k_here; first
  | ((with_reducible show wpOn _ _ (execs [] _) _ _ _); refine on_execs_nil ?_)
  | ((with_reducible show wpOn _ _ (execs (Stmt.Expr (Expr.Call (Expr.Attribute _ _ _) _ _ _) _ :: _) _) _ _ _); k_dflt refine on_execs_cons (on_Expr (on_method ?_)))
  | ((with_reducible show wpOn _ _ (execs (Stmt.Assign _ (Expr.Call (Expr.Name (Str.ofString "bytearray") _) _ _ _) _ :: _) _) _ _ _); k_dflt refine on_execs_cons (on_Assign (on_Call (f := .none) ?_)))
  | ((with_reducible show wpOn _ _ (execs (Stmt.If _ _ _ _ :: _) _) _ _ _); refine on_execs_cons (on_If ?_))
  | ((with_reducible show wpOn _ _ (execs (Stmt.For (Expr.Name _ _) _ _ [] _ :: _) _) _ _ _); (rename Fr _ _ _ _ => lF'); k_dflt refine on_execs_cons (on_ForOn (Fr.base lF') (by rfl) (by rfl) ?_))
  | ((with_reducible show wpOn _ _ (execs (_ :: _) _) _ _ _); (fail_if_success (with_reducible show wpOn _ _ (execs (Stmt.While _ _ _ _ :: _) _) _ _ _)); refine on_execs_any ?_)
  | ((with_reducible show wpOn _ _ (callWith _ (Value.builtin _) _ _ _) _ _ _); k_dflt refine on_callWith_m rfl rfl (on_evalArgs (on_spliced_cons ?_)))
  | ((with_reducible show wpOn _ _ (callWith _ (Value.type _) _ _ _) _ _ _); k_dflt refine on_callWith_m rfl rfl (on_evalArgs0 ?_))
  | ((with_reducible show wpOn _ _ (spliced []) _ _ _); refine on_spliced_nil ?_)
  | ((with_reducible show wpOn _ _ (spliced (List.map _ _)) _ _ _); refine on_spliced_nil ?_; (try dsimp only))
  | ((with_reducible show wpOn _ _ (eval _ _) _ _ _); refine on_any ?_)
  | ((with_reducible show wpOn _ _ (call (Value.builtin "bytearray.append") _) _ _ _); k_dflt (refine' BA.appendN ?F ?N ?U ?z1 ?z2 ?z3 ?_; (case F => k_asm); (case N => k_asm); (case U => k_upd); (case z1 => walk_at "byte"); (case z2 => walk_at "byte"); (case z3 => walk_at "size")); intro h8 F8 N8; (try dsimp only))
  | ((with_reducible show wpOn _ _ (call (Value.builtin "bytearray.extend") _) _ _ _); k_dflt (refine' BA.extendN ?F ?N ?hc ?U ?z ?_; (case F => k_asm); (case N => k_asm); (case hc => kba_ints); (case U => k_upd); (case z => walk_at "size")); intro h8 F8 N8; (try dsimp only))
  | ((with_reducible show wpOn _ _ (call (Value.type "bytearray") _) _ _ _); k_dflt (refine' BA.newN ?F ?N ?_; (case F => k_asm); (case N => k_asm)); intro a8 h8 F8 N8 n8; (try dsimp only))
  | ((with_reducible show wpOn _ _ (ite (false = true) _ _) _ _ _); refine on_if_false ?_)
  | (dsimp only; (with_reducible show wpOn _ _ (call _ _) _ _ _); fail_if_success (with_reducible show wpOn _ _ (call (Value.builtin "no") _) _ _ _))))
local macro_rules | `(tactic| walk_at "exec While") => `(tactic| (k_here; (with_reducible show wpAny _ _ (exec (Stmt.While _ _ _ _) _) _ _ _); refine halt ?_))
local macro_rules | `(tactic| walk_at "exec While BoolOp") => `(tactic| (k_here; (with_reducible show wpAny _ _ (exec (Stmt.While _ _ _ _) _) _ _ _); refine halt ?_))
local macro_rules | `(tactic| walk_at "exec While Compare") => `(tactic| (k_here; (with_reducible show wpAny _ _ (exec (Stmt.While _ _ _ _) _) _ _ _); refine halt ?_))
local macro_rules | `(tactic| walk_at "binaryOp RShift int int") => `(tactic| (k_here; (with_reducible refine rshift_int ?kb1 ?_); (case kb1 => omega)))

section
variable {prog p : Program} {lz : List Str} {w : World} {mean : ExcName → Option Value} {mg mb : Str → Option Value} {dp un : Nat} {gd : Option (List Code)} {base : Heap} {outer : List Env} {n : Nat}
  {Q E : Value → Shared → Prop} {s : Shared}

set_option maxHeartbeats 4000000 in
theorem ct_is_plain {code : Int} {t : Tok} (S : Sit p lz w mean mg mb dp un gd base outer (n + 1) s.heap)
  (hret : ∀ h' tk', s.heap.StaysIn h' → Q (.bool (decide (32 ≤ code) && decide (code ≤ 126))) { s with heap := h', toks := tk' }) :
  wpAny (model prog w) (ar dp un gd outer) (call (.ref 109) [.int code t]) Q E s := by
  k_dflt refine' enterS (binds := [(Str.ofString "code", .int code t)]) S ?k6 ?k7 ?k9 ?kB ?c2 ?c3 ?c4 ?c5 ?_
  (k_dflt ((case k6 => k_is); (case k7 => k_is); (case k9 => exact BindsTo.of_eq rfl); (case c5 => decide); (case kB => exact locs rfl); (case c2 => exact rfl); (case c3 => exact rfl); (case c4 => exact rfl)); k_whole; intro L1 h1 F1 N1 B1 X1 T1 hroom hunits; (try dsimp only [List.reverse_cons, List.reverse_nil, List.nil_append, List.cons_append]); (try k_fold))
  k_steps
  all_goals (refine' ret_v (s := s) hret ?_ (Fr.keep (by assumption)); simp [*])

set_option maxHeartbeats 4000000 in
theorem ct_is_half {code : Int} {t : Tok} (S : Sit p lz w mean mg mb dp un gd base outer (n + 1) s.heap)
  (hret : ∀ h' tk', s.heap.StaysIn h' → Q (.bool (decide (55296 ≤ code) && decide (code ≤ 57343))) { s with heap := h', toks := tk' }) :
  wpAny (model prog w) (ar dp un gd outer) (call (.ref 116) [.int code t]) Q E s := by
  k_dflt refine' enterS (binds := [(Str.ofString "code", .int code t)]) S ?k6 ?k7 ?k9 ?kB ?c2 ?c3 ?c4 ?c5 ?_
  (k_dflt ((case k6 => k_is); (case k7 => k_is); (case k9 => exact BindsTo.of_eq rfl); (case c5 => decide); (case kB => exact locs rfl); (case c2 => exact rfl); (case c3 => exact rfl); (case c4 => exact rfl)); k_whole; intro L1 h1 F1 N1 B1 X1 T1 hroom hunits; (try dsimp only [List.reverse_cons, List.reverse_nil, List.nil_append, List.cons_append]); (try k_fold))
  k_steps
  all_goals (refine' ret_v (s := s) hret ?_ (Fr.keep (by assumption)); simp [*])
end

section
variable {prog p : Program} {lz : List Str} {w : World} {mean : ExcName → Option Value} {mg mb : Str → Option Value} {dp un : Nat} {gd : Option (List Code)} {base : Heap} {outer : List Env} {n : Nat}
  {Q E : Value → Shared → Prop} {s : Shared}

def gTot (ks : List Int) : Int := ks.foldl (fun t c => 256 * t + c) 0
def gCodes (sg ks : List Int) : List Int := (List.range (ks.length + 1)).map fun i => sg.getD ((gTot ks * 2 ^ (6 - 2 * ks.length)) / 2 ^ (6 * (ks.length - i)) % 64).toNat 0
theorem gTot_bound {ks : List Int} (h : ∀ k ∈ ks, 0 ≤ k ∧ k < 256) (hl : ks.length ≤ 3) : 0 ≤ gTot ks ∧ gTot ks < 16777216 := by
  unfold gTot
  match ks, hl with
  | [], _ => simp
  | [a], _ => have := h a (by simp); simp; omega
  | [a, b], _ => have := h a (by simp); have := h b (by simp); simp; omega
  | [a, b, c], _ => have := h a (by simp); have := h b (by simp); have := h c (by simp); simp; omega

set_option maxHeartbeats 4000000 in
theorem ct_group_codes {b al : Array UInt8} {ks sg : List Int} {t t' : Tok} (S : Sit p lz w mean mg mb dp un gd base outer (n + 1) s.heap)
  (hb : KBw.bInts b = ks) (ha : KBw.bInts al = sg) (hsg : sg.length = 64) (hk1 : 1 ≤ ks.length) (hk3 : ks.length ≤ 3)
  (hret : ∀ l ys h' tk', s.heap.StaysIn h' → h'.get? l = some (LCg.lst ys) → s.heap.get? l = none → IntsAre ys (gCodes sg ks) → Q (.ref l) { s with heap := h', toks := tk' }) :
  wpAny (model prog w) (ar dp un gd outer) (call (.ref 76) [.bytes b t, .bytes al t']) Q E s := by
  k_dflt refine' enterC (binds := [(Str.ofString "octets", .bytes b t), (Str.ofString "alphabet", .bytes al t')]) S ?k6 ?k7 ?k9 ?kB ?kD ?c2 ?c3 ?c4 ?_
  walk_at "enter_c"
  k_with_none
  k_with "pyIter bytes" => fail "stop"
  k_steps
  rename_i h2 o3 F2 N2 d3
  refine KStb.kst_bytes (σ := Obj × Int × Tok) (fun c => [(L1 + 1 + 1, c.1), (L1 + 1, o2)]) (fun _ => []) (fun c => c.1.data = .cell (some (.int c.2.1 c.2.2))) [] (fun pre c => c.2.1 = gTot pre) ⟨o3, 0, _⟩ hb rfl rfl F2 N2 d3 (fun _ h => nomatch h) rfl ?_ ?_
  · intro c pre post x t u h tk own e hlt h0 h256 hoff hf hp F N
    clear F2 N2
    k_steps
    rename_i o4 _ _ _
    (with_unfolding_all refine' kst_end ⟨o4, 256 * c.2.1 + x, _⟩ ?hF ?hN ?hn ?ho ?ha ?hf ?hk ?hr ?hp); ((case hF => assumption); (case hN => assumption); (case hn => kst_in); (case ho => kst_in); (case ha => rfl); (case hf => first | assumption | trivial | skip); (case hk => kst_all); (case hr => first | kst_same | (intro z hz1 hz2 hz3; simp [hz1, kstB]; done) | (intro z hz1 hz2 hz3; simp at hz3; simp [hz1, hz3, kstB]; done)))
    simp [hp, gTot]
  · intro c u h tk e hf hp F N
    clear F2 N2
    obtain ⟨o, tot, tk0⟩ := c
    dsimp only at hf hp F N
    have htot : 0 ≤ tot ∧ tot < 16777216 := by rw [hp]; exact gTot_bound (fun k hk => KBw.ints_in (hb ▸ hk)) hk3
    k_steps
    rename_i hr4 F4 N4 k4
    refine comp_range (n := ks.length + 1) rfl F4 N4 hr4 (small_down (by omega) (by omega) (by omega) (by omega)) (by rw [rangeSize_downNat]; congr 1; omega) (by rw [sizeLine_eq]; omega) ?_
    intro g
    refine comp_each (fun i y => ∃ t, y = .int (sg.getD ((gTot ks * 2 ^ (6 - 2 * ks.length)) / 2 ^ (6 * (ks.length - i)) % 64).toNat 0) t) ?_ trivial ?_
    · rintro i v I oI C oC D m₂ ys h tk E' hi ⟨_, t, rfl⟩ hC hx F5 N5 off ne
      k_steps
      have e1 : (6 * ((ks.length : Int) + 1) - 8 * (ks.length : Int)).toNat = 6 - 2 * ks.length := by omega
      have e2 : (6 * ((ks.length : Int) + 1 - 1 + (i : Int) * -1)).toNat = 6 * (ks.length - i) := by omega
      have e3 : (tot * 2 ^ (6 - 2 * ks.length)).fdiv (2 ^ (6 * (ks.length - i))) = (tot * 2 ^ (6 - 2 * ks.length)) / 2 ^ (6 * (ks.length - i)) := Int.fdiv_eq_ediv_of_nonneg _ (Int.pow_nonneg (by omega))
      refine KBw.item_K ha (by omega) (by rw [bitAnd_m6]; omega) (by rw [bitAnd_m6]; omega) ?_
      intro t2 k2 _ _
      refine LCg.CompEnd.intro F5 N5 _ (fun _ hp => hp) off trivial ⟨rfl, t2, ?_⟩
      rw [bitAnd_m6, e1, e2, e3, hp]
    · intro ys hl hy
      k_steps
      rename_i D5 h5 tk5 F5 N5 o5
      exact hret D5 ys h5 tk5 F5.keep (N5 _ (.head _)).1 (N5 _ (.head _)).2.2 (intsAre_of hl hy)
end

section
variable {prog p : Program} {lz : List Str} {w : World} {mean : ExcName → Option Value} {mg mb : Str → Option Value} {dp un : Nat} {gd : Option (List Code)} {base : Heap} {outer : List Env} {n : Nat}
  {Q E : Value → Shared → Prop} {s : Shared}
def wTot (ns : List Int) : Int := ns.foldl (fun t c => 64 * t + c) 0
theorem wTot_bound {ks : List Int} (h : ∀ k ∈ ks, 0 ≤ k ∧ k < 64) (hl : ks.length ≤ 4) : 0 ≤ wTot ks ∧ wTot ks < 16777216 := by
  unfold wTot
  match ks, hl with
  | [], _ => simp
  | [a], _ => have := h a (by simp); simp; omega
  | [a, b], _ => have := h a (by simp); have := h b (by simp); simp; omega
  | [a, b, c], _ => have := h a (by simp); have := h b (by simp); have := h c (by simp); simp; omega
  | [a, b, c, d], _ => have := h a (by simp); have := h b (by simp); have := h c (by simp); have := h d (by simp); simp; omega
def gOcts (ns : List Int) : List Int := (List.range (ns.length - 1)).map fun i => (wTot ns / 2 ^ (8 - 2 * ns.length)) / 2 ^ (8 * (ns.length - 2 - i)) % 256

theorem gOcts_in (ns : List Int) : KBa.In (gOcts ns) := by
  intro k hk
  obtain ⟨i, _, rfl⟩ := List.mem_map.mp hk
  omega
theorem gOcts_len (ns : List Int) : (gOcts ns).length = ns.length - 1 := by simp [gOcts]
theorem bitAnd_spare {x : Int} {k : Nat} (hk : k = 0 ∨ k = 2 ∨ k = 4) : Builtin.bitAnd x (1 * 2 ^ k - 1) = x % 2 ^ k := by
  rcases hk with rfl | rfl | rfl
  · rw [show ((1 : Int) * 2 ^ 0 - 1) = 0 from rfl, show ((2 : Int) ^ 0) = 1 from rfl, Int.emod_one]
    unfold Builtin.bitAnd
    cases h : decide (0 ≤ x) <;> simp
  · exact bitAnd_m2 x
  · exact bitAnd_m4 x

set_option maxHeartbeats 4000000 in
theorem ct_group_octets {l : Addr} {vs : List Value} {ns : List Int} (S : Sit p lz w mean mg mb dp un gd base outer (n + 1) s.heap)
  (hl : s.heap.IsList l vs.toArray) (hi : IntsAre vs ns) (hk1 : 2 ≤ ns.length) (hk3 : ns.length ≤ 4) (hv : ∀ k ∈ ns, 0 ≤ k ∧ k < 64)
  (hret : ∀ l' b tb u h' tk', s.heap.StaysIn h' → h'.get? l' = some { cls := .type "tuple", data := .seq [.bytes b tb, .int (wTot ns % 2 ^ (8 - 2 * ns.length)) u].toArray } → s.heap.get? l' = none → KBw.bInts b = gOcts ns → Q (.ref l') { s with heap := h', toks := tk' }) :
  wpAny (model prog w) (ar dp un gd outer) (call (.ref 81) [.ref l]) Q E s := by
  k_dflt refine' enterC (binds := [(Str.ofString "worth_row", .ref l)]) S ?k6 ?k7 ?k9 ?kB ?kD ?c2 ?c3 ?c4 ?_
  walk_at "enter_c"
  k_with_none
  k_with "state" => first | (simp [wTot]; done) | (rename_i hInv; subst hInv; simp [wTot]; done) | (simp_all [wTot]; done)
  k_with "pyIter ref" => k_state (fun pre t => t = wTot pre) "total"
  k_steps
  rename_i hr4 F4 N4 k4
  have htot := wTot_bound hv hk3
  refine comp_range (n := ns.length - 1) rfl F4 N4 hr4 (small_down (by omega) (by omega) (by omega) (by omega)) (by rw [rangeSize_downNat]; congr 1; omega) (by rw [sizeLine_eq]; omega) ?_
  intro g
  refine comp_each (fun i y => ∃ t, y = .int ((wTot ns / 2 ^ (8 - 2 * ns.length)) / 2 ^ (8 * (ns.length - 2 - i)) % 256) t) ?_ trivial ?_
  · rintro i v I oI C oC D m₂ ys h tk E' hi ⟨_, t, rfl⟩ hC hx F5 N5 off ne
    k_steps
    have e1 : (6 * (ns.length : Int) - 8 * ((ns.length : Int) - 1)).toNat = 8 - 2 * ns.length := by omega
    have e2 : (8 * ((ns.length : Int) - 1 - 1 + (i : Int) * -1)).toNat = 8 * (ns.length - 2 - i) := by omega
    refine LCg.CompEnd.intro F5 N5 _ (fun _ hp => hp) off trivial ⟨rfl, _, congrArg (fun z => Value.int z _) ?_⟩
    rw [bitAnd_m8, e1, e2, kInv, Int.fdiv_eq_ediv_of_nonneg _ (Int.pow_nonneg (by omega)), Int.fdiv_eq_ediv_of_nonneg _ (Int.pow_nonneg (by omega))]
  · intro ys hl hy
    have hI : IntsAre ys (gOcts ns) := intsAre_of hl hy
    have hin := gOcts_in ns
    have hgl := gOcts_len ns
    k_steps
    (rename Fr _ _ _ _ => F9); (rename News _ _ _ _ => N9)
    have z := (N9 _ (.head _)).1
    have e1 : (6 * (ns.length : Int) - 8 * ((ns.length : Int) - 1)).toNat = 8 - 2 * ns.length := by omega
    rw [e1, kInv, bitAnd_spare (by omega)] at z
    exact hret _ _ _ _ _ _ F9.keep z (N9 _ (.head _)).2.2 (KBa.ints_make hin)
end

set_option hygiene false in
local macro_rules | `(tactic| walk_at "call ref") => `(tactic| (k_here; k_dflt (refine' ct_group_codes (Sit.use ?B ?F ?X ?T ?r ?u) ?q1 ?q2 ?q3 ?q4 ?q5 ?_; (walk_at "sit"); (case q1 => kba_ints); (case q2 => kba_ints); (case q3 => assumption); (case q4 => walk_at "side"); (case q5 => walk_at "side")); intro l7 ys7 h7 tk7 k7 e7 f7 i7; (rename Fr _ _ _ _ => F6); (rename News _ _ _ _ => N6); (have F7 := fr_stays F6 k7); (have N7 := news_add F6 N6 k7 e7 f7); (have n7 := news_ne N6 f7); clear e7 f7; (try dsimp only)))
local macro_rules | `(tactic| walk_at "InvEndN") => `(tactic| ((with_reducible show InvEndN _ _ _ _ _ _ _); refine halt ?_))
local macro_rules | `(tactic| walk_at "KswEnd") => `(tactic| ((with_reducible show KswEnd _ _ _ _ _ _ _ _ _ _ _ _); refine halt ?_))

section
variable {prog p : Program} {lz : List Str} {w : World} {mean : ExcName → Option Value} {mg mb : Str → Option Value} {dp un : Nat} {gd : Option (List Code)} {base : Heap} {outer : List Env} {n : Nat}
  {Q E : Value → Shared → Prop} {s : Shared}
def pEnc (sg ks : List Int) : Nat → List Int
  | 0 => []
  | i + 1 => pEnc sg ks i ++ gCodes sg ((ks.drop (3 * i)).take 3)

theorem pEnc_len (sg ks : List Int) : ∀ i, (pEnc sg ks i).length ≤ 4 * i
  | 0 => Nat.le_refl _
  | i + 1 => by
    have := pEnc_len sg ks i
    simp only [pEnc, gCodes, List.length_append, List.length_map, List.length_range, List.length_take]
    omega
theorem getD_in' {sg : List Int} (h : KBa.In sg) (j : Nat) : 0 ≤ sg.getD j 0 ∧ sg.getD j 0 < 256 := KBw.getD_in h
theorem pEnc_in {sg : List Int} (h : KBa.In sg) (ks : List Int) : ∀ i, KBa.In (pEnc sg ks i)
  | 0 => fun _ h => nomatch h
  | i + 1 => fun k hk => by
    rcases List.mem_append.mp hk with hk | hk
    · exact pEnc_in h ks i k hk
    · obtain ⟨j, _, rfl⟩ := List.mem_map.mp hk
      exact getD_in' h _

set_option maxHeartbeats 4000000 in
theorem ct_part_encoded {b al : Array UInt8} {ks sg : List Int} {t t' : Tok} (S : Sit p lz w mean mg mb dp un gd base outer (n + 2) s.heap)
  (hb : KBw.bInts b = ks) (ha : KBw.bInts al = sg) (hsg : sg.length = 64) (hk : ks.length ≤ 100000)
  (hret : ∀ b' t h' tk', s.heap.StaysIn h' → KBw.bInts b' = pEnc sg ks ((ks.length + 2) / 3) → Q (.bytes b' t) { s with heap := h', toks := tk' }) :
  wpAny (model prog w) (ar dp un gd outer) (call (.ref 88) [.bytes b t, .bytes al t']) Q E s := by
  k_dflt refine' enterS (binds := [(Str.ofString "octets", .bytes b t), (Str.ofString "alphabet", .bytes al t')]) S ?k6 ?k7 ?k9 ?kB ?c2 ?c3 ?c4 ?c5 ?_
  (k_dflt ((case k6 => k_is); (case k7 => k_is); (case k9 => exact BindsTo.of_eq rfl); (case c5 => decide); (case kB => exact locs rfl); (case c2 => exact rfl); (case c3 => exact rfl); (case c4 => exact rfl)); k_whole; intro L1 h1 F1 N1 B1 X1 T1 hroom hunits; (try dsimp only [List.reverse_cons, List.reverse_nil, List.nil_append, List.cons_append]); (try k_fold))
  k_with_none
  k_with "pyIter ref" => fail "stop"
  k_steps
  rename_i l4 _ _ _ _ _ _ _ _ _ _ hr4 F4 N4 k4
  have hn : Builtin.Range.rangeSize 0 ((ks.length : Int)) 3 = (((ks.length + 2) / 3 : Nat) : Int) := by
    rw [rangeSize_pos (by omega) (by omega)]; omega
  refine kst_rangeS (σ := List Value × Nat) (n := (ks.length + 2) / 3) (fun c => [(l4, W.listOf c.1.toArray c.2)]) (fun _ => []) (fun _ => True) [] (fun pre c => IntsAre c.1 (pEnc sg ks pre.length)) ⟨[], 0⟩ rfl hr4 ?_ hn F4 N4 trivial (fun _ h => nomatch h) .nil ?_ ?_
  · exact small_step (by omega) (by omega) (by omega) (by omega)
  · rintro ⟨vs, k1⟩ pre k t u h tk own e hlt hoff _ hp F N
    dsimp only at hp F N
    k_steps
    (rename KBw.bInts (KBy.picked _ _ _) = _ => hb5)
    have hcl := clip_slice (ks := ks) (k := k) (c := 3) (i := 3 * pre.length) (m := 3) (by omega) rfl
    rw [hcl] at hb5
    have hc1 : 1 ≤ ((ks.drop (3 * pre.length)).take 3).length := by simp only [List.length_take, List.length_drop]; omega
    have hc3 : ((ks.drop (3 * pre.length)).take 3).length ≤ 3 := by simp only [List.length_take, List.length_drop]; omega
    have hgl : (gCodes sg ((ks.drop (3 * pre.length)).take 3)).length = ((ks.drop (3 * pre.length)).take 3).length + 1 := by simp [gCodes]
    have hvl : vs.length ≤ 400000 := by
      have := hp.length; have := pEnc_len sg ks pre.length; omega
    k_steps
    have hyl := i7.length
    refine kl_extend F7 N7 (.head _) (l := vs ++ ys7) (by simp) (by show ys7.length ≠ 0; omega) (upd2 (fun q => n7 _ (List.mem_append_left _ (.head _)) q.symm) (fun p hp => hoff p hp _ (.head _))) (fun q => by simp [Builtin.List.listTooLong, sizeLine_eq] at q; omega) (by rw [sizeLine_eq]; simp; omega) (by rw [sizeLine_eq]; simp; omega) ?_
    intro h8 F8 N8
    k_steps
    (with_unfolding_all refine' kst_end (vs ++ ys7, k1 + 1) ?hF ?hN ?hn ?ho ?ha ?hf ?hk ?hr ?hp); ((case hF => assumption); (case hN => assumption); (case hn => kst_in); (case ho => kst_in); (case ha => rfl); (case hf => first | assumption | trivial | skip); (case hk => kst_all); (case hr => first | kst_same | (intro z hz1 hz2 hz3; simp [hz1, kstB]; done) | (intro z hz1 hz2 hz3; simp at hz3; simp [hz1, hz3, kstB]; done)))
    rw [List.length_append]; exact IntsAre.append hp i7
  · rintro ⟨vs, k⟩ u h tk pre e _ hp F N
    dsimp only at hp F N
    rw [e] at hp
    have hin := pEnc_in (sg := sg) (fun k hk => KBw.ints_in (ha ▸ hk)) ks ((ks.length + 2) / 3)
    have hpl := pEnc_len sg ks ((ks.length + 2) / 3)
    k_steps
    exact hret _ _ _ _ (Fr.keep (by assumption)) (KBa.ints_make hin)
end

set_option hygiene false in
local macro_rules | `(tactic| walk_at "call ref") => `(tactic| (k_here; k_dflt (refine' ct_is_half (Sit.use ?B ?F ?X ?T ?r ?u) ?_; (walk_at "sit")); intro h7 tk7 k7; (rename Fr _ _ _ _ => F6); (rename News _ _ _ _ => N6); (have F7 := fr_stays F6 k7); (have N7 := news_stays N6 k7); (try dsimp only)))
set_option hygiene false in
local macro_rules | `(tactic| walk_at "call ref") => `(tactic| (k_here; k_dflt (refine' ct_is_plain (Sit.use ?B ?F ?X ?T ?r ?u) ?_; (walk_at "sit")); intro h7 tk7 k7; (rename Fr _ _ _ _ => F6); (rename News _ _ _ _ => N6); (have F7 := fr_stays F6 k7); (have N7 := news_stays N6 k7); (try dsimp only)))

section
variable {prog p : Program} {lz : List Str} {w : World} {mean : ExcName → Option Value} {mg mb : Str → Option Value} {dp un : Nat} {gd : Option (List Code)} {base : Heap} {outer : List Env} {n : Nat}
  {Q : Value → Shared → Prop} {s : Shared}
def hiU (c : Int) : Int := 55296 + (c - 65536) / 1024
def loU (c : Int) : Int := 56320 + (c - 65536) % 1024
def u16one (c : Int) : List Int := if 65535 < c then [hiU c / 256, hiU c % 256, loU c / 256, loU c % 256] else [c / 256, c % 256]
def u16 (cs : List Nat) : List Int := cs.flatMap fun (c : Nat) => u16one (c : Int)

theorem u16_snoc {cs : List Nat} {b i : Nat} (h : b + i < cs.length) : u16 ((cs.drop b).take (i + 1)) = u16 ((cs.drop b).take i) ++ u16one (cs[b + i] : Nat) := by
  have e : (cs.drop b)[i]? = some cs[b + i] := by rw [List.getElem?_drop]; exact List.getElem?_eq_getElem h
  rw [List.take_add_one, e]
  simp [u16]
theorem u16one_len (c : Int) : (u16one c).length ≤ 4 := by unfold u16one; split <;> simp
theorem u16_len : ∀ cs : List Nat, (u16 cs).length ≤ 4 * cs.length
  | [] => by simp [u16]
  | c :: cs => by
    have := u16_len cs; have := u16one_len c
    simp only [u16, List.flatMap_cons, List.length_append, List.length_cons] at *
    omega
theorem u16one_in {c : Nat} (h : c < 1114112) : KBa.In (u16one c) := by
  intro k hk
  unfold u16one hiU loU at hk
  split at hk <;> simp at hk
  · rcases hk with rfl | rfl | rfl | rfl <;> omega
  · rcases hk with rfl | rfl <;> omega
theorem u16_in {cs : List Nat} (h : ∀ c ∈ cs, c < 1114112) : KBa.In (u16 cs) := by
  intro k hk
  simp only [u16, List.mem_flatMap] at hk
  obtain ⟨c, hc, hk⟩ := hk
  exact u16one_in (h c hc) k hk

set_option maxHeartbeats 4000000 in
theorem ct_utf16 {cs : List Nat} {t t1 t2 : Tok} {b e : Nat} (S : Sit p lz w mean mg mb dp un gd base outer (n + 2) s.heap)
  (hbe : b ≤ e) (he : e ≤ cs.length) (hv : ∀ c ∈ cs, c < 1114112 ∧ ¬ (55296 ≤ c ∧ c ≤ 57343)) (hk : cs.length ≤ 100000)
  (hret : ∀ b' t h' tk', s.heap.StaysIn h' → KBw.bInts b' = u16 ((cs.drop b).take (e - b)) → Q (.bytes b' t) { s with heap := h', toks := tk' }) :
  wpOn (model prog w) (ar dp un gd outer) (call (.ref 123) [.str ⟨cs.toArray⟩ t, .int b t1, .int e t2]) Q noE s := by
  k_dflt refine' on_enterS (binds := [(Str.ofString "text", .str ⟨cs.toArray⟩ t), (Str.ofString "begin", .int b t1), (Str.ofString "end", .int e t2)]) S ?k6 ?k7 ?k9 ?kB ?c2 ?c3 ?c4 ?c5 ?_
  (k_dflt ((case k6 => k_is); (case k7 => k_is); (case k9 => exact BindsTo.of_eq rfl); (case c5 => decide); (case kB => exact locs rfl); (case c2 => exact rfl); (case c3 => exact rfl); (case c4 => exact rfl)); k_whole; intro L1 h1 F1 N1 B1 X1 T1 hroom hunits; (try dsimp only [List.reverse_cons, List.reverse_nil, List.nil_append, List.cons_append]); (try k_fold))
  k_with_none
  k_with "pyIter ref" => fail "stop"
  k_steps
  rename_i a8 h8 n8 h9 F9 N9 h10 tk10 t10 u10 v10 hr10 F10 N10 k10
  refine on_kst_range (σ := List Int) (n := e - b) (fun c => [(a8, baObj (byteArr c))]) (fun _ => []) (fun _ => True) [Str.ofString "code", Str.ofString "high"] (fun pre c => c = u16 ((cs.drop b).take pre.length)) [] rfl hr10 ?_ ?_ F10 N10 trivial (fun _ h => nomatch h) rfl ?_ ?_
  · exact small_ab (by omega) (by omega) (by omega)
  · rw [rangeSize_ab (by omega)]; omega
  · intro c pre k t u h tk own hke hlt hoff _ hp F N
    (try dsimp only at hp F N)
    have hl := str_len cs
    have hin : b + pre.length < cs.length := by omega
    have hc := char_at (k := k) (i := b + pre.length) (by omega) hin
    have hc' : (Txt.item { cps := cs.toArray } k).cps.getD 0 0 = cs[b + pre.length] := hc
    have hc0 := hv _ (List.getElem_mem hin)
    have hsn := u16_snoc hin
    generalize cs[b + pre.length] = c0 at hc hc' hc0 hsn
    have hcl : c.length ≤ 400000 := by
      have := u16_len (List.take pre.length (List.drop b cs))
      simp only [List.length_take, List.length_drop] at this
      rw [hp]; omega
    k_steps
    · generalize (Txt.item { cps := cs.toArray } k).cps.getD 0 0 = x at *
      subst hc'
      (with_unfolding_all refine' kst_end (c ++ [(55296 + ((x : Int) - 65536).fdiv (2 ^ Int.toNat 10)).fdiv (2 ^ Int.toNat 8)] ++ [Builtin.bitAnd (55296 + ((x : Int) - 65536).fdiv (2 ^ Int.toNat 10)) 255] ++ [(56320 + Builtin.bitAnd ((x : Int) - 65536) 1023).fdiv (2 ^ Int.toNat 8)] ++ [Builtin.bitAnd (56320 + Builtin.bitAnd ((x : Int) - 65536) 1023) 255]) ?hF ?hN ?hn ?ho ?ha ?hf ?hk ?hr ?hp); ((case hF => assumption); (case hN => assumption); (case hn => kst_in); (case ho => kst_in); (case ha => rfl); (case hf => first | assumption | trivial | skip); (case hk => kst_all); (case hr => first | kst_same | (intro z hz1 hz2 hz3; simp [hz1, kstB]; done) | (intro z hz1 hz2 hz3; simp at hz3; simp [hz1, hz3, kstB]; done)))
      rw [List.length_append, List.length_singleton, hsn, hp]
      simp only [u16one, hiU, loU, shr8, shr10, bitAnd_m8, bitAnd_m10, List.append_assoc, List.cons_append, List.nil_append, if_pos (show (65535 : Int) < (x : Int) by omega)]
    · generalize (Txt.item { cps := cs.toArray } k).cps.getD 0 0 = x at *
      subst hc'
      (with_unfolding_all refine' kst_end (c ++ [(x : Int).fdiv (2 ^ Int.toNat 8)] ++ [Builtin.bitAnd (x : Int) 255]) ?hF2 ?hN2 ?hn2 ?ho2 ?ha2 ?hf2 ?hk2 ?hr2 ?hp2); ((case hF2 => assumption); (case hN2 => assumption); (case hn2 => kst_in); (case ho2 => kst_in); (case ha2 => rfl); (case hf2 => first | assumption | trivial | skip); (case hk2 => kst_all); (case hr2 => first | kst_same | (intro z hz1 hz2 hz3; simp [hz1, kstB]; done) | (intro z hz1 hz2 hz3; simp at hz3; simp [hz1, hz3, kstB]; done)))
      rw [List.length_append, List.length_singleton, hsn, hp]
      simp only [u16one, shr8, bitAnd_m8, List.append_assoc, List.cons_append, List.nil_append, if_neg (show ¬ (65535 : Int) < (x : Int) by omega)]
  · intro c u h tk pre hpre _ hp F N
    (try dsimp only at hp F N)
    have hcl : c.length ≤ 400000 := by
      have := u16_len (List.take pre.length (List.drop b cs))
      simp only [List.length_take, List.length_drop] at this
      rw [hp]; omega
    rw [hpre] at hp
    k_steps
    exact hret _ _ _ _ (Fr.keep (by assumption)) (by rw [hp]; exact KBa.ints_make (u16_in fun x hx => (hv x (List.mem_of_mem_drop (List.mem_of_mem_take hx))).1))
end

section
variable {prog p : Program} {w : World} {A : Around} {s : Shared} {env : Env} {h₀ : Heap} {L : Addr} {Q : Flow → Shared → Prop}
/-- a call of a def of the program, its arguments ready -/
def AtCall (prog : Program) (w : World) (A : Around) (h₀ : Heap) (a : Addr) (vs : List Value) (kw : List (Str × Value)) (Q : Value → Shared → Prop) (s₁ : Shared) : Prop :=
  (∃ L m, Fr h₀ L s₁.heap m) ∧ wpOn (model prog w) A (call (.ref a) vs kw) Q noE s₁
theorem AtCall.mk {a : Addr} {vs : List Value} {kw : List (Str × Value)} {Q : Value → Shared → Prop} {m : Str → Option Value} (F : Fr h₀ L s.heap m) (h : wpOn (model prog w) A (call (.ref a) vs kw) Q noE s) : AtCall prog w A h₀ a vs kw Q s := ⟨⟨_, _, F⟩, h⟩
theorem on_callWith_k {pos : Pos} {a : Addr} {oc : Value} {od : Option Addr} {fd : FuncData} {osl : Array (Option Value)} {first : List Value} {args : List (Bool × Sem Value)} {Q : Value → Shared → Prop}
    (ho : (hd.heap_39 w.params).lookup a = some ⟨oc, od, .func fd, osl⟩) (X : (hd.heap_39 w.params).In h₀) (hplain : args.any (·.1) = false)
    (h : wpOn (model prog w) A (evalArgs (.ref a) true args []) (fun x s₁ => AtCall prog w A h₀ a (first ++ x.pos) x.kw Q s₁) noE s) : wpOn (model prog w) A (callWith pos (.ref a) first args []) Q noE s := by
  refine on_callWith_f (o := ⟨oc, od, .func fd, osl⟩) rfl hplain (on_mono h (fun x s₁ h₁ => ⟨?_, h₁.2⟩) fun _ _ x => x)
  obtain ⟨L, m, F⟩ := h₁.1
  exact F.keep _ _ (X _ _ ho)

theorem on_ksw_while {σ : Type} {test : Expr} {body : List Stmt} {pos : Pos} {m₀ : Str → Option Value} (Led : σ → List (Addr × Obj)) (ps : σ → List (Str × Value)) (Facts : σ → Prop) (stored : List Str) (P : σ → Prop) (μ : σ → Nat) (c₀ : σ)
    (F : Fr h₀ L s.heap m₀) (N : News h₀ L s.heap (Led c₀)) (hf : Facts c₀) (hk : ∀ p ∈ ps c₀, m₀ p.1 = some p.2) (hp : P c₀)
    (turn : ∀ (c : σ) (u : Str → Option Value) h tk, Facts c → P c → Fr h₀ L h (kstB (fun z => if stored.contains z then u z else m₀ z) (ps c)) → News h₀ L h (Led c) →
      wpAny (model prog w) A (isTrue test env (eval test env)) (fun b s₂ =>
        if b = true then wpOn (model prog w) A (execs body env) (KswPost h₀ L s Led ps Facts stored m₀ P μ Q c) noE s₂ else Q .next s₂) noE { s with heap := h, toks := tk }) :
    wpOn (model prog w) A (exec (.While test body [] pos) env) Q noE s := by
  refine on_While (fun n s' => ∃ (c : σ) (m : Str → Option Value) (h : Heap) (tk : Nat), s' = { s with heap := h, toks := tk } ∧ μ c = n ∧ Facts c ∧ (∀ p ∈ ps c, m p.1 = some p.2) ∧ (∀ z, (∀ p ∈ ps c, z ≠ p.1) → stored.contains z = false → m z = m₀ z) ∧ P c ∧ Fr h₀ L h m ∧ News h₀ L h (Led c)) ?_ (μ c₀) ⟨c₀, m₀, s.heap, s.toks, rfl, rfl, hf, hk, fun _ _ _ => rfl, hp, F, N⟩
  rintro n s' ⟨c, m₁, h, tk, rfl, hsz, hf', h1, h2, hp', F₁, N₁⟩
  refine wpAny_mono (turn c m₁ h tk hf' hp' (ksw_fr h1 h2 F₁) N₁) (fun b s₂ p => ?_) fun _ _ x => x
  cases b with
  | false => simpa using p
  | true =>
    simp only [if_true] at p ⊢
    refine on_mono p (fun f s₃ q => ?_) fun _ _ x => x
    cases f with
    | ret v => exact q
    | brk => exact q
    | next =>
      obtain ⟨c', h', tk', m', news', rfl, F', N', hn, hf9, hk9, hr9, hp9, hm9⟩ := q
      exact ⟨μ c', hsz ▸ hm9, c', m', h', tk', rfl, rfl, hf9, hk9, hr9, hp9, F', fun p hp => N' p (hn p hp)⟩
    | cont =>
      obtain ⟨c', h', tk', m', news', rfl, F', N', hn, hf9, hk9, hr9, hp9, hm9⟩ := q
      exact ⟨μ c', hsz ▸ hm9, c', m', h', tk', rfl, rfl, hf9, hk9, hr9, hp9, F', fun p hp => N' p (hn p hp)⟩
end
def sgn : List Int := [65, 66, 67, 68, 69, 70, 71, 72, 73, 74, 75, 76, 77, 78, 79, 80, 81, 82, 83, 84, 85, 86, 87, 88, 89, 90, 97, 98, 99, 100, 101, 102, 103, 104, 105, 106, 107, 108, 109, 110, 111, 112, 113, 114, 115, 116, 117, 118, 119, 120, 121, 122, 48, 49, 50, 51, 52, 53, 54, 55, 56, 57, 43, 44]

section
variable {prog p : Program} {lz : List Str} {w : World} {mean : ExcName → Option Value} {mg mb : Str → Option Value} {dp un : Nat} {gd : Option (List Code)} {base : Heap} {outer : List Env} {n : Nat}
  {Q E : Value → Shared → Prop} {s : Shared}
def plainN (c : Nat) : Bool := decide (32 ≤ (c : Int)) && decide ((c : Int) ≤ 126)
def runEnd (cs : List Nat) (b : Nat) : Nat := b + ((cs.drop b).takeWhile fun c => !plainN c).length
theorem runEnd_stop {cs : List Nat} {b : Nat} (h : b < cs.length) (hp : plainN cs[b] = true) : runEnd cs b = b := by
  unfold runEnd
  rw [List.drop_eq_getElem_cons h, List.takeWhile_cons, hp]; simp
theorem runEnd_step {cs : List Nat} {b : Nat} (h : b < cs.length) (hp : plainN cs[b] = false) : runEnd cs b = runEnd cs (b + 1) := by
  unfold runEnd
  rw [List.drop_eq_getElem_cons h, List.takeWhile_cons, hp]; simp; omega
theorem runEnd_end {cs : List Nat} {b : Nat} (h : cs.length ≤ b) : runEnd cs b = b := by
  unfold runEnd
  rw [List.drop_of_length_le h]; simp
theorem runEnd_le {cs : List Nat} {b : Nat} (h : b ≤ cs.length) : b ≤ runEnd cs b ∧ runEnd cs b ≤ cs.length := by
  unfold runEnd
  have := (List.takeWhile_sublist (l := cs.drop b) fun c => !plainN c).length_le
  simp only [List.length_drop] at this
  omega

set_option maxHeartbeats 4000000 in
theorem ct_run_behind {cs : List Nat} {t t1 : Tok} {b : Nat} (S : Sit p lz w mean mg mb dp un gd base outer (n + 2) s.heap)
  (hb : b ≤ cs.length) (hk : cs.length ≤ 100000)
  (hret : ∀ t h' tk', s.heap.StaysIn h' → Q (.int (runEnd cs b : Nat) t) { s with heap := h', toks := tk' }) :
  wpAny (model prog w) (ar dp un gd outer) (call (.ref 130) [.str ⟨cs.toArray⟩ t, .int b t1]) Q E s := by
  k_dflt refine' enterS (binds := [(Str.ofString "text", .str ⟨cs.toArray⟩ t), (Str.ofString "begin", .int b t1)]) S ?k6 ?k7 ?k9 ?kB ?c2 ?c3 ?c4 ?c5 ?_
  (k_dflt ((case k6 => k_is); (case k7 => k_is); (case k9 => exact BindsTo.of_eq rfl); (case c5 => decide); (case kB => exact locs rfl); (case c2 => exact rfl); (case c3 => exact rfl); (case c4 => exact rfl)); k_whole; intro L1 h1 F1 N1 B1 X1 T1 hroom hunits; (try dsimp only [List.reverse_cons, List.reverse_nil, List.nil_append, List.cons_append]); (try k_fold))
  k_with_none

  k_steps
  rename_i h6 F6 N6
  refine unhalt (ksw_while (σ := Nat × Tok) (fun _ => []) (fun c => [(Str.ofString "end", .int c.1 c.2)]) (fun _ => True) [] (fun c => c.1 ≤ cs.length ∧ runEnd cs c.1 = runEnd cs b) (fun c => cs.length - c.1) (b, t1) F6 N6 trivial ?_ ⟨hb, rfl⟩ ?_)
  · intro p hp; rw [List.mem_singleton.mp hp]; rfl
  · rintro ⟨i, ti⟩ u h tk _ hp F N
    dsimp only at hp F N
    have hl := str_len cs
    rcases Nat.lt_or_ge i cs.length with hi | hi
    · have hc := char_at (k := i) (i := i) rfl hi
      have hc' : (Txt.item { cps := cs.toArray } i).cps.getD 0 0 = cs[i] := hc
      have hst := runEnd_stop hi
      have hsn := runEnd_step hi
      generalize cs[i] = c0 at hc hc' hst hsn
      k_steps
      · have e := hp.2.symm.trans (hst (by rw [← hc']; assumption))
        rw [e] at hret
        exact hret _ _ _ (Fr.keep (by assumption))
      · (with_unfolding_all refine' ksw_end (i + 1, _) ?wF ?wN ?wn ?wf ?wk ?wr ?wp ?wm); ((case wF => assumption); (case wN => assumption); (case wn => kst_in); (case wf => first | assumption | trivial | skip); (case wk => first | (intro p hp; cases List.mem_singleton.mp hp; with_unfolding_all rfl) | kst_all | (intro p hp; simp at hp; simp [hp]; done) | skip); (case wr => first | ksw_same | (intro z hz2 hz3; simp at hz2; simp [hz2, kstB]; done) | (intro z hz2 hz3; simp at hz2 hz3; simp [hz2, hz3, kstB]; done) | skip))
        · exact ⟨hi, (hsn (by rw [← hc']; assumption)).symm.trans hp.2⟩
        · show cs.length - (i + 1) < cs.length - i; omega
    · k_steps
      have e := hp.2.symm.trans (runEnd_end hi)
      rw [e] at hret
      exact hret _ _ _ (Fr.keep (by assumption))
end

set_option hygiene false in
local macro_rules | `(tactic| walk_at "call ref") => `(tactic| (k_here; k_dflt (refine' ct_run_behind (Sit.use ?B ?F ?X ?T ?r ?u) ?q1 ?q2 ?_; (walk_at "sit"); (case q1 => walk_at "side"); (case q2 => walk_at "side")); intro t7 h7 tk7 k7; (rename Fr _ _ _ _ => F6); (rename News _ _ _ _ => N6); (have F7 := fr_stays F6 k7); (have N7 := news_stays N6 k7); (try dsimp only)))
set_option hygiene false in
local macro_rules | `(tactic| walk_at "call ref") => `(tactic| (k_here; k_dflt (refine' ct_part_encoded (sg := sgn) (Sit.use ?B ?F ?X ?T ?r ?u) ?q1 ?q2 ?q3 ?q4 ?_; (walk_at "sit"); (case q1 => kba_ints); (case q2 => first | rfl | decide +kernel); (case q3 => rfl); (case q4 => walk_at "side")); intro b7 t7 h7 tk7 k7 i7; (rename Fr _ _ _ _ => F6); (rename News _ _ _ _ => N6); (have F7 := fr_stays F6 k7); (have N7 := news_stays N6 k7); (try dsimp only)))
local macro_rules | `(tactic| walk_at "AtCall") => `(tactic| (k_here; k_dflt (refine' AtCall.mk ?F ?_; (case F => k_asm))))
set_option hygiene false in
local macro_rules | `(tactic| walk_at "wpOn") => `(tactic| (k_here; first
  | ((with_reducible show wpOn _ _ (exec (Stmt.While _ _ _ _) _) _ _ _); refine halt ?_)
  | ((with_reducible show wpOn _ _ (execs (Stmt.While _ _ _ _ :: _) _) _ _ _); refine on_execs_cons ?_)
  | ((with_reducible show wpOn _ _ (eval (Expr.Call (Expr.Name (Str.ofString "part_encoded") _) _ _ _) _) _ _ _); k_dflt refine on_Call (f := .none) ?_)
  | ((with_reducible show wpOn _ _ (eval (Expr.Call (Expr.Name (Str.ofString "utf16_octets") _) _ _ _) _) _ _ _); k_dflt refine on_Call (f := .none) ?_)
  | ((with_reducible show wpOn _ _ (callWith _ (Value.ref _) _ _ _) _ _ _); k_dflt (refine' on_callWith_k ?k6 ?X rfl (on_evalArgs (on_spliced_cons ?_)); (case k6 => k_is); (case X => k_asm)))
  | ((with_reducible show wpOn _ _ (spliced (List.map _ _)) _ _ _); first | refine on_spliced_nil ?_ | refine on_spliced_cons ?_; (try dsimp only))
  | ((with_reducible show wpOn _ _ (call (Value.ref 88) _) _ _ _); refine on_any ?_)
  | ((with_reducible show wpOn _ _ (call (Value.ref 123) _) _ _ _); (k_dflt (refine' ct_utf16 (Sit.use ?B ?F ?X ?T ?r ?u) ?q1 ?q2 ?q3 ?q4 ?_; (walk_at "sit"); (case q1 => walk_at "side"); (case q2 => walk_at "side"); (case q3 => assumption); (case q4 => walk_at "side")); intro b7 t7 h7 tk7 k7 i7; (rename Fr _ _ _ _ => F6); (rename News _ _ _ _ => N6); (have F7 := fr_stays F6 k7); (have N7 := news_stays N6 k7); (try dsimp only)))))

section
variable {prog p : Program} {lz : List Str} {w : World} {mean : ExcName → Option Value} {mg mb : Str → Option Value} {dp un : Nat} {gd : Option (List Code)} {base : Heap} {outer : List Env} {n : Nat}
  {Q : Value → Shared → Prop} {s : Shared}
def encRun (run : List Nat) : List Int := [38] ++ pEnc sgn (u16 run) (((u16 run).length + 2) / 3) ++ [45]
def enc (cs : List Nat) : List Int :=
  match cs with
  | [] => []
  | c :: cs => if plainN c then (if c = 38 then [38, 45] else [(c : Int)]) ++ enc cs else encRun ((c :: cs).takeWhile fun c => !plainN c) ++ enc ((c :: cs).drop (runEnd (c :: cs) 0))
termination_by cs.length
decreasing_by
  · simp
  · rename_i h
    simp only [List.length_drop, List.length_cons]
    have : 1 ≤ runEnd (c :: cs) 0 := by
      rw [runEnd_step (by simp) (by simpa using h)]; have := runEnd_le (cs := c :: cs) (b := 0 + 1) (by simp); omega
    omega
theorem enc_plain {cs : List Nat} {i : Nat} (h : i < cs.length) (hp : plainN cs[i] = true) : enc (cs.drop i) = (if cs[i] = 38 then [38, 45] else [(cs[i] : Int)]) ++ enc (cs.drop (i + 1)) := by
  rw [List.drop_eq_getElem_cons h, enc, if_pos hp]
theorem enc_run {cs : List Nat} {i : Nat} (h : i < cs.length) (hp : plainN cs[i] = false) : enc (cs.drop i) = encRun ((cs.drop i).take (runEnd cs i - i)) ++ enc (cs.drop (runEnd cs i)) := by
  have e1 : (cs.drop i).takeWhile (fun c => !plainN c) = (cs.drop i).take (runEnd cs i - i) := by
    have : (cs.drop i).takeWhile (fun c => !plainN c) = (cs.drop i).take ((cs.drop i).takeWhile (fun c => !plainN c)).length := (List.prefix_iff_eq_take.mp (List.takeWhile_prefix _))
    rw [this]; unfold runEnd
    congr 1
    simp
  have e2 : runEnd (cs.drop i) 0 = runEnd cs i - i := by unfold runEnd; simp
  have e3 := runEnd_le (cs := cs) (b := i) (Nat.le_of_lt h)
  rw [← e1]
  have e4 : cs.drop (runEnd cs i) = (cs.drop i).drop (runEnd (cs.drop i) 0) := by rw [e2, List.drop_drop]; congr 1; omega
  rw [e4]
  rw [List.drop_eq_getElem_cons h, enc, if_neg (by simp [hp])]
theorem enc_end {cs : List Nat} {i : Nat} (h : cs.length ≤ i) : enc (cs.drop i) = [] := by
  rw [List.drop_of_length_le h, enc]
theorem encRun_len (run : List Nat) (h : 1 ≤ run.length) : (encRun run).length ≤ 10 * run.length := by
  have h1 := pEnc_len sgn (u16 run) (((u16 run).length + 2) / 3)
  have h2 := u16_len run
  simp only [encRun, List.length_append, List.length_cons, List.length_nil]
  omega
theorem enc_len (cs : List Nat) : (enc cs).length ≤ 10 * cs.length := by
  suffices h : ∀ k, ∀ cs : List Nat, cs.length ≤ k → (enc cs).length ≤ 10 * cs.length from h _ _ (Nat.le_refl _)
  intro k
  induction k with
  | zero => intro cs h; have : cs = [] := List.length_eq_zero_iff.mp (by omega); subst this; simp [enc]
  | succ k ih =>
    intro cs h
    rcases Nat.eq_zero_or_pos cs.length with h0 | h0
    · have : cs = [] := List.length_eq_zero_iff.mp h0; subst this; simp [enc]
    · cases hp : plainN cs[0] with
      | true =>
        have e := enc_plain h0 hp
        rw [List.drop_zero] at e
        have := ih (cs.drop (0 + 1)) (by simp; omega)
        rw [e, List.length_append]
        simp only [List.length_drop] at this
        split <;> simp only [List.length_cons, List.length_nil] <;> omega
      | false =>
        have e := enc_run h0 hp
        rw [List.drop_zero] at e
        have h1 : 1 ≤ runEnd cs 0 ∧ runEnd cs 0 ≤ cs.length := by
          have := runEnd_le (cs := cs) (b := 1) h0
          rw [runEnd_step h0 hp]; omega
        have := ih (cs.drop (runEnd cs 0)) (by simp; omega)
        have h2 := encRun_len (cs.take (runEnd cs 0 - 0)) (by simp; omega)
        rw [e, List.length_append]
        simp only [List.length_drop, List.length_take] at this h2
        omega

theorem encRun_in (run : List Nat) : KBa.In (encRun run) := by
  intro k hk
  simp only [encRun, List.mem_append, List.mem_singleton] at hk
  rcases hk with (rfl | hk) | rfl
  · omega
  · exact pEnc_in (sg := sgn) (show ∀ k ∈ sgn, 0 ≤ k ∧ k < 256 by decide) _ _ k hk
  · omega
theorem enc_in (cs : List Nat) : KBa.In (enc cs) := by
  suffices h : ∀ k, ∀ cs : List Nat, cs.length ≤ k → KBa.In (enc cs) from h _ _ (Nat.le_refl _)
  intro k
  induction k with
  | zero => intro cs h; have : cs = [] := List.length_eq_zero_iff.mp (by omega); subst this; rw [enc]; exact fun _ h => nomatch h
  | succ k ih =>
    intro cs h
    rcases Nat.eq_zero_or_pos cs.length with h0 | h0
    · have : cs = [] := List.length_eq_zero_iff.mp h0; subst this; rw [enc]; exact fun _ h => nomatch h
    · cases hp : plainN cs[0] with
      | true =>
        have e := enc_plain h0 hp
        rw [List.drop_zero] at e
        have := ih (cs.drop (0 + 1)) (by simp; omega)
        rw [e]
        intro x hx
        rcases List.mem_append.mp hx with hx | hx
        · unfold plainN at hp; simp at hp
          split at hx <;> simp at hx <;> omega
        · exact this x hx
      | false =>
        have e := enc_run h0 hp
        rw [List.drop_zero] at e
        have h1 : 1 ≤ runEnd cs 0 ∧ runEnd cs 0 ≤ cs.length := by
          have := runEnd_le (cs := cs) (b := 0 + 1) h0
          rw [runEnd_step h0 hp]; omega
        have := ih (cs.drop (runEnd cs 0)) (by simp; omega)
        rw [e]
        intro x hx
        rcases List.mem_append.mp hx with hx | hx
        · exact encRun_in _ x hx
        · exact this x hx

set_option maxHeartbeats 4000000 in
theorem ct_seven {cs : List Nat} {t : Tok} (S : Sit p lz w mean mg mb dp un gd base outer (n + 4) s.heap)
  (hv : ∀ c ∈ cs, c < 1114112 ∧ ¬ (55296 ≤ c ∧ c ≤ 57343)) (hk : cs.length ≤ 20000)
  (hret : ∀ b' t h' tk', s.heap.StaysIn h' → KBw.bInts b' = enc cs → Q (.bytes b' t) { s with heap := h', toks := tk' }) :
  wpOn (model prog w) (ar dp un gd outer) (call (.ref 137) [.str ⟨cs.toArray⟩ t]) Q noE s := by
  k_dflt refine' on_enterS (binds := [(Str.ofString "text", .str ⟨cs.toArray⟩ t)]) S ?k6 ?k7 ?k9 ?kB ?c2 ?c3 ?c4 ?c5 ?_
  (k_dflt ((case k6 => k_is); (case k7 => k_is); (case k9 => exact BindsTo.of_eq rfl); (case c5 => decide); (case kB => exact locs rfl); (case c2 => exact rfl); (case c3 => exact rfl); (case c4 => exact rfl)); k_whole; intro L1 h1 F1 N1 B1 X1 T1 hroom hunits; (try dsimp only [List.reverse_cons, List.reverse_nil, List.nil_append, List.cons_append]); (try k_fold))
  k_with_none
  k_steps
  rename_i a8 _ n8 _ h9 F9 N9
  refine' unhalt (on_ksw_while (σ := List Int × Nat × Tok) (fun c => [(a8, baObj (byteArr c.1))]) (fun c => [(Str.ofString "at", .int c.2.1 c.2.2)]) (fun _ => True) [Str.ofString "code", Str.ofString "end"] (fun c => c.2.1 ≤ cs.length ∧ c.1 ++ enc (cs.drop c.2.1) = enc cs) (fun c => cs.length - c.2.1) ([], 0, ?tk0) F9 N9 trivial ?hk0 ⟨Nat.zero_le _, by simp⟩ ?_)
  case hk0 => intro p hp; cases List.mem_singleton.mp hp; rfl
  · rintro ⟨out, i, ti⟩ u h tk _ hp F N
    dsimp only at hp F N
    have hl := str_len cs
    have hel := enc_len cs
    have hol : out.length + (enc (cs.drop i)).length ≤ 200000 := by rw [← hp.2, List.length_append] at hel; omega
    rcases Nat.lt_or_ge i cs.length with hi | hi
    · have hc := char_at (k := i) (i := i) rfl hi
      have hc' : (Txt.item { cps := cs.toArray } i).cps.getD 0 0 = cs[i] := hc
      have hst := enc_plain hi
      have hsn := enc_run hi
      have hre := runEnd_step hi
      have hrl := runEnd_le (cs := cs) (b := i) hp.1
      have hrl1 := runEnd_le (cs := cs) (b := i + 1) hi
      have hel1 := enc_len (cs.drop i)
      have hul : (u16 ((cs.drop i).take (runEnd cs i - i))).length ≤ 80000 := by
        have := u16_len ((cs.drop i).take (runEnd cs i - i)); simp only [List.length_take, List.length_drop] at this; omega
      have hpe := pEnc_len sgn (u16 ((cs.drop i).take (runEnd cs i - i))) (((u16 ((cs.drop i).take (runEnd cs i - i))).length + 2) / 3)
      generalize cs[i] = c0 at hc hc' hst hsn hre
      have hvt : ∀ c ∈ cs, c < 1114112 ∧ ¬ (55296 ≤ c ∧ c ≤ 57343) := hv
      rcases Bool.eq_false_or_eq_true (plainN c0) with hq | hq
      · have hq' : 32 ≤ c0 ∧ c0 ≤ 126 := by unfold plainN at hq; simp at hq; omega
        k_steps
        · generalize (Txt.item { cps := cs.toArray } i).cps.getD 0 0 = x at *
          subst hc'
          (with_unfolding_all refine' ksw_end (out ++ [(x : Int)] ++ [45], i + 1, _) ?wF ?wN ?wn ?wf ?wk ?wr ?wp ?wm); ((case wF => assumption); (case wN => assumption); (case wn => kst_in); (case wf => first | assumption | trivial | skip); (case wk => first | (intro p hp; cases List.mem_singleton.mp hp; with_unfolding_all rfl) | kst_all | (intro p hp; simp at hp; simp [hp]; done) | skip); (case wr => first | ksw_same | (intro z hz2 hz3; simp at hz2; simp [hz2, kstB]; done) | (intro z hz2 hz3; simp at hz2 hz3; simp [hz2, hz3, kstB]; done) | skip))
          · refine ⟨hi, ?_⟩
            rw [← hp.2, hst hq, if_pos (by omega)]
            have : (x : Int) = 38 := by assumption
            simp [this]
          · show cs.length - (i + 1) < cs.length - i; omega
        · generalize (Txt.item { cps := cs.toArray } i).cps.getD 0 0 = x at *
          subst hc'
          (with_unfolding_all refine' ksw_end (out ++ [(x : Int)], i + 1, _) ?wF2 ?wN2 ?wn2 ?wf2 ?wk2 ?wr2 ?wp2 ?wm2); ((case wF2 => assumption); (case wN2 => assumption); (case wn2 => kst_in); (case wf2 => first | assumption | trivial | skip); (case wk2 => first | (intro p hp; cases List.mem_singleton.mp hp; with_unfolding_all rfl) | kst_all | (intro p hp; simp at hp; simp [hp]; done) | skip); (case wr2 => first | ksw_same | (intro z hz2 hz3; simp at hz2; simp [hz2, kstB]; done) | (intro z hz2 hz3; simp at hz2 hz3; simp [hz2, hz3, kstB]; done) | skip))
          · refine ⟨hi, ?_⟩
            rw [← hp.2, hst hq, if_neg (by omega)]
            simp
          · show cs.length - (i + 1) < cs.length - i; omega
      · have hq' : ¬ (32 ≤ c0 ∧ c0 ≤ 126) := by unfold plainN at hq; simp at hq; omega
        k_steps
        (with_unfolding_all refine' ksw_end (out ++ [38] ++ pEnc sgn (u16 ((cs.drop i).take (runEnd cs i - i))) (((u16 ((cs.drop i).take (runEnd cs i - i))).length + 2) / 3) ++ [45], runEnd cs i, _) ?wF3 ?wN3 ?wn3 ?wf3 ?wk3 ?wr3 ?wp3 ?wm3); ((case wF3 => assumption); (case wN3 => assumption); (case wn3 => kst_in); (case wf3 => first | assumption | trivial | skip); (case wk3 => first | (intro p hp; cases List.mem_singleton.mp hp; with_unfolding_all rfl) | kst_all | (intro p hp; simp at hp; simp [hp]; done) | skip); (case wr3 => first | ksw_same | (intro z hz2 hz3; simp at hz2; simp [hz2, kstB]; done) | (intro z hz2 hz3; simp at hz2 hz3; simp [hz2, hz3, kstB]; done) | skip))
        · refine ⟨hrl.2, ?_⟩
          rw [← hp.2, hsn hq]
          simp [encRun]
        · have := hre hq
          show cs.length - runEnd cs i < cs.length - i; omega
    · rw [enc_end hi, List.append_nil] at hp
      k_steps
      exact hret _ _ _ _ (Fr.keep (by assumption)) (by rw [hp.2]; exact KBa.ints_make (enc_in cs))
end

section
variable {prog p : Program} {lz : List Str} {w : World} {mean : ExcName → Option Value} {mg mb : Str → Option Value} {dp un : Nat} {gd : Option (List Code)} {base : Heap} {outer : List Env} {n : Nat}
  {Q E : Value → Shared → Prop} {s : Shared}
def psOf (us : List Tok) : List (Int × Value) := us.zipIdx.map fun p => (sgn.getD p.2 0, Value.int (p.2 : Nat) p.1)
theorem psOf_get {us : List Tok} {j : Nat} {u : Tok} (h : us[j]? = some u) : (psOf us)[j]? = some (sgn.getD j 0, Value.int (j : Nat) u) := by
  simp [psOf, List.getElem?_zipIdx, h]
theorem psOf_len (us : List Tok) : (psOf us).length = us.length := by simp [psOf]
theorem psOf_keys (us : List Tok) : (psOf us).map (·.1) = (List.range us.length).map fun j => sgn.getD j 0 := by
  refine List.ext_getElem (by simp [psOf]) fun j h1 h2 => ?_
  simp [psOf]
theorem psOf_nodup {us : List Tok} (h : us.length = 64) : ((psOf us).map (·.1)).Nodup := by
  rw [psOf_keys, h]; decide +kernel

def WJ (i : Nat) (ys : List Value) (nw : List (Addr × Obj)) : Prop :=
  ys.length = i ∧ ∃ us : List Tok, us.length = i ∧ ∀ (j : Nat) (u : Tok), us[j]? = some u → ∃ (T : Addr) (t : Tok) (o : Obj) (n : Nat), ys[j]? = some (Value.ref T) ∧ (T, o) ∈ nw ∧ o.cls = .type "tuple" ∧ o.data = .seq #[.int (sgn.getD j 0) t, .int (j : Nat) u] n

set_option maxHeartbeats 1000000 in
theorem ct_worth {al : Array UInt8} {sg : List Int} {t : Tok} (S : Sit p lz w mean mg mb dp un gd base outer (n + 1) s.heap)
  (ha : KBw.bInts al = sg) (hsg : sg.length = 64) (hsn : sg = sgn)
  (hret : ∀ d o us h' tk', s.heap.StaysIn h' → h'.get? d = some o → s.heap.get? d = none → o.IsDictOf (PySem.intKind prog w) (psOf us) → us.length = 64 → (d == sysModules) = false → Q (.ref d) { s with heap := h', toks := tk' }) :
  wpAny (model prog w) (ar dp un gd outer) (call (.ref 71) [.bytes al t]) Q E s := by
  k_dflt refine' enterC (binds := [(Str.ofString "alphabet", .bytes al t)]) S ?k6 ?k7 ?k9 ?kB ?kD ?c2 ?c3 ?c4 ?_
  walk_at "enter_c"
  k_with_none
  k_steps
  rename_i F3 N3 _ _ _ _ _ hr4 F4 N4 k4
  refine comp_range (n := 64) rfl F4 N4 hr4 (small_ab (by omega) (by omega) (by omega)) (by rw [rangeSize_ab (by omega)]; omega) (by rw [sizeLine_eq]; omega) ?_
  intro g
  refine Gr.comp_grow (fun i ys nw => ∃ tl, nw = (L1 + 1, o1) :: tl ∧ WJ i ys tl) ?_ ⟨[], rfl, rfl, [], rfl, fun j u h => by simp at h⟩ ?_
  · rintro i v I oI C oC D m₂ ys nw h tk E' hi ⟨_, t, rfl⟩ ⟨tl, rfl, hJ⟩ hC hx F5 N5 off ne
    k_steps
    rename_i t5 _ _ _ T5 h5 F6 N6 l6
    have e1 : (0 + (i : Int) * 1).toNat = i := by omega
    have e2 : (0 + (i : Int) * 1) = (i : Int) := by omega
    rw [e1, e2] at N6
    refine LCg.CompEnd.intro F6 N6 ((L1 + 1, o1) :: (T5, { cls := Value.type "tuple", data := Data.seq #[Value.int (sg.getD i 0) t5, Value.int (i : Int) t] }) :: tl) (fun p hp => ?_) ⟨off.1, ⟨?_, off.2⟩⟩ trivial ⟨_, rfl, ?_⟩
    · simp only [List.mem_cons] at hp ⊢
      rcases hp with h | h | h | h | h | h <;> simp [h]
    · obtain ⟨q1, q2, q3, _⟩ := l6
      exact ⟨fun q => by have q' : T5 = I := q; omega, fun q => by have q' : T5 = C := q; omega, fun q => by have q' : T5 = D := q; omega⟩
    · obtain ⟨hl, us, hu, hJ'⟩ := hJ
      refine ⟨by simp [hl], us ++ [t], by simp [hu], fun j u hj => ?_⟩
      rcases Nat.lt_or_ge j i with h1 | h1
      · rw [List.getElem?_append_left (by omega)] at hj
        obtain ⟨T, t', o, n', a1, a2, a3⟩ := hJ' j u hj
        exact ⟨T, t', o, n', by rw [List.getElem?_append_left (by omega)]; exact a1, .tail _ a2, a3⟩
      · obtain rfl : j = i := by
          have := (List.getElem?_eq_some_iff.mp hj).1
          simp at this; omega
        rw [List.getElem?_append_right (by omega), hu, Nat.sub_self] at hj
        simp at hj; subst hj
        exact ⟨T5, t5, _, _, by rw [List.getElem?_append_right (by omega), hl, Nat.sub_self]; rfl, .head _, rfl, by rw [hsn]⟩
  · rintro ys nw ⟨tl, rfl, hJ⟩
    k_steps
    rename_i D5 h5 tk5 F5 N5 o5
    obtain ⟨hl, us, hu, hJ'⟩ := hJ
    refine dict_pairsN (knd := PySem.intKind _ _) (ys := ys) (ps := psOf us) rfl F5 N5 (Top.nolimit T1) (.head _) (by rw [psOf_len]; omega) (by rw [psOf_len]; omega) (fun j k v hj => ?_) fun d h' tk' o F6 N6 hd hsys _ => ?_
    · have hj1 := (List.getElem?_eq_some_iff.mp hj).1
      rw [psOf_len] at hj1
      have hj2 := List.getElem?_eq_getElem hj1
      rw [psOf_get hj2] at hj; cases hj
      obtain ⟨T, t', o, n', a1, a2, a3, a4⟩ := hJ' j _ hj2
      exact ⟨T, _, o, n', a1, .tail _ (.tail _ a2), a3, a4, intKind_is _ _ _ _⟩
    · rw [merged_nil_of_nodup _ (psOf_nodup hu)] at hd
      k_steps
      exact hret d o us _ _ F6.keep (N6 _ (.head _)).1 (N6 _ (.head _)).2.2 hd hu hsys
end

section
variable {prog : Program} {w : World} {K : Type} [DecidableEq K] {knd : KeyKind prog w K} {A : Around} {E : Value → Shared → Prop} {s : Shared} {h₀ : Heap} {L d : Addr} {m : Str → Option Value} {kvs : List (K × Value)} {k : K} {key v : Value}
theorem dict_up {h h' : Heap} (hD : h.DictOf knd d kvs) (k : h.StaysIn h') : h'.DictOf knd d kvs := by
  obtain ⟨o, es, ep, ho, r⟩ := hD
  exact ⟨o, es, ep, k _ _ ho, r⟩
theorem dict_notin_K {Q : Value → Shared → Prop} (F : Fr h₀ L s.heap m) (hD : h₀.DictOf knd d kvs) (lo : (d == sysModules) = false) (hkey : knd.is k key = true) (b : Bool) (hb : (valueAt kvs k).isSome = b) (h : Q (.bool (!b)) { s with toks := s.toks + 1 }) :
    wpAny (model prog w) A (compareOp .NotIn key (.ref d)) Q E s := wpAny_notIn_of hkey lo (dict_up hD F.keep).mapOf (by rw [hb]; exact h)
theorem dict_item_K {value slice : PySem.Expr} {Q : Value → Shared → Prop} (F : Fr h₀ L s.heap m) (hD : h₀.DictOf knd d kvs) (hkey : knd.is k key = true) (hl : valueAt kvs k = some v) (h : Q v { s with toks := s.toks + 1 })
    (hs : subscripted slice false (.ref d) key = operate [.ref d, key] (getItem (.ref d) key) := by with_unfolding_all rfl) (hg : ∀ r, letTemporaryGo value (.ref d) r = pure () := by intro _; with_unfolding_all rfl) :
    wpAny (model prog w) A (subscriptTail value slice (.ref d) key) Q E s :=
  have hD' := dict_up hD F.keep
  subscriptTail_builtin hD'.typeIs slot_dict_getitem.lookup (wpAny_getItem_of hkey hD'.mapOf hl h) hs hg
end
theorem isSome_of {α : Type} {x : Option α} {v : α} (h : x = some v) : x.isSome = true := by rw [h]; rfl
theorem valueAt_nodup : ∀ {kvs : List (Int × Value)} {j : Nat} {k : Int} {v : Value}, (kvs.map (·.1)).Nodup → kvs[j]? = some (k, v) → valueAt kvs k = some v
  | [], _, _, _, _, h => by simp at h
  | (k', v') :: r, 0, k, v, _, h => by simp at h; simp [valueAt, h]
  | (k', v') :: r, j + 1, k, v, hn, h => by
    simp only [List.map_cons, List.nodup_cons] at hn
    have h' : r[j]? = some (k, v) := by simpa using h
    have hm : k ∈ r.map (·.1) := List.mem_map.mpr ⟨(k, v), List.mem_of_getElem? h', rfl⟩
    have hne : ¬ k' = k := fun q => hn.1 (q ▸ hm)
    have := valueAt_nodup hn.2 h'
    simp only [valueAt] at this ⊢
    simpa [hne] using this
theorem valueAt_psOf {us : List Tok} (h : us.length = 64) {j : Nat} (hj : j < 64) : ∃ u, valueAt (psOf us) (sgn.getD j 0) = some (.int (j : Nat) u) :=
  ⟨us[j], valueAt_nodup (psOf_nodup h) (psOf_get (List.getElem?_eq_getElem (by omega)))⟩
section
variable {prog p : Program} {lz : List Str} {w : World} {mean : ExcName → Option Value} {mg mb : Str → Option Value} {dp un : Nat} {gd : Option (List Code)} {base : Heap} {outer : List Env} {n : Nat}
  {Q E : Value → Shared → Prop} {s : Shared}
local macro_rules | `(tactic| walk_at "pyIter ref") => `(tactic| (k_here; (with_reducible show wpAny _ _ (pyIter _) _ _ _); refine halt ?_))
local macro_rules | `(tactic| walk_at "compareOp NotIn int ref") => `(tactic| (k_here; k_dflt (refine dict_notin_K (knd := PySem.intKind _ _) (by k_asm) (by assumption) (by assumption) (intKind_is _ _ _ _) true (isSome_of (by assumption)) ?_); (try dsimp only [Bool.not_true, Bool.not_false])))
local macro_rules | `(tactic| walk_at "subscriptTail") => `(tactic| (k_here; k_dflt (refine dict_item_K (knd := PySem.intKind _ _) (by k_asm) (by assumption) (intKind_is _ _ _ _) (by assumption) ?_)))
set_option maxHeartbeats 2000000 in
theorem ct_part_numbers {b : Array UInt8} {ks : List Int} {ns : List Nat} {us : List Tok} {d : Addr} {t : Tok} (S : Sit p lz w mean mg mb dp un gd base outer (n + 1) s.heap)
  (hb : KBw.bInts b = ks) (hks : ks = ns.map fun j => sgn.getD j 0) (hns : ∀ j ∈ ns, j < 64) (hk : ks.length ≤ 100000)
  (hD : s.heap.DictOf (PySem.intKind prog w) d (psOf us)) (hu : us.length = 64) (lo : (d == sysModules) = false)
  (hret : ∀ l ys e h' tk', s.heap.StaysIn h' → h'.get? l = some (W.listOf ys.toArray e) → s.heap.get? l = none → IntsAre ys (ns.map fun j : Nat => (j : Int)) → Q (.ref l) { s with heap := h', toks := tk' }) :
  wpAny (model prog w) (ar dp un gd outer) (call (.ref 95) [.bytes b t, .ref d]) Q E s := by
  k_dflt refine' enterS (binds := [(Str.ofString "signs", .bytes b t), (Str.ofString "worths", .ref d)]) S ?k6 ?k7 ?k9 ?kB ?c2 ?c3 ?c4 ?c5 ?_
  (k_dflt ((case k6 => k_is); (case k7 => k_is); (case k9 => exact BindsTo.of_eq rfl); (case c5 => decide); (case kB => exact locs rfl); (case c2 => exact rfl); (case c3 => exact rfl); (case c4 => exact rfl)); k_whole; intro L1 h1 F1 N1 B1 X1 T1 hroom hunits; (try dsimp only [List.reverse_cons, List.reverse_nil, List.nil_append, List.cons_append]); (try k_fold))
  k_with_none
  k_with "pyIter ref" => fail "stop"
  k_steps
  rename_i l4 _ _ _ _ _ _ _ _ _ _ hr4 F4 N4 k4
  have hkn : ks.length = ns.length := by rw [hks]; simp
  refine unhalt (kst_range (σ := List Value × Nat) (n := ns.length) (fun c => [(l4, W.listOf c.1.toArray c.2)]) (fun _ => []) (fun _ => True) [] (fun pre c => IntsAre c.1 ((ns.take pre.length).map fun j : Nat => (j : Int))) ⟨[], 0⟩ rfl hr4 (small_ab (by omega) (by omega) (by omega)) (by rw [rangeSize_ab (by omega)]; omega) F4 N4 trivial (fun _ h => nomatch h) .nil ?_ ?_)
  · rintro ⟨vs, k1⟩ pre k t u h tk own e hlt hoff _ hp F N
    dsimp only at hp F N
    have hj : pre.length < ns.length := hlt
    have hg : ks.getD k.toNat 0 = sgn.getD ns[pre.length] 0 := by
      have : k.toNat = pre.length := by omega
      rw [this, hks]; simp [hj]
    obtain ⟨u9, hv9⟩ := valueAt_psOf hu (hns _ (List.getElem_mem hj))
    rw [← hg] at hv9
    have hvl := hp.length
    simp only [List.length_map, List.length_take] at hvl
    k_steps
    (rename News _ _ _ _ => nE); simp only [List.push_toArray] at nE
    (with_unfolding_all refine' kst_end (vs ++ [Value.int (ns[pre.length] : Nat) u9], _) ?hF ?hN ?hn ?ho ?ha ?hf ?hk ?hr ?hp); ((case hF => assumption); (case hN => assumption); (case hn => kst_in); (case ho => kst_in); (case ha => rfl); (case hf => first | assumption | trivial | skip); (case hk => kst_all); (case hr => first | kst_same | (intro z hz1 hz2 hz3; simp [hz1, kstB]; done) | (intro z hz1 hz2 hz3; simp at hz3; simp [hz1, hz3, kstB]; done)))
    rw [List.length_append, List.length_singleton, List.take_add_one, List.getElem?_eq_getElem hj, List.map_append]
    exact IntsAre.append hp (.cons _ _ .nil)
  · rintro ⟨vs, k⟩ u h tk _ hp F N
    dsimp only at hp F N
    rw [rangeKs_length, List.take_length] at hp
    k_steps
    exact hret l4 vs k _ _ (Fr.keep (by assumption)) (N _ (.head _)).1 (N _ (.head _)).2.2 hp
end

set_option hygiene false in
local macro_rules | `(tactic| walk_at "call ref") => `(tactic| (k_here; k_dflt (refine' ct_worth (Sit.use ?B ?F ?X ?T ?r ?u) ?q1 ?q2 ?q3 ?_; (walk_at "sit"); (case q1 => first | assumption | rfl | decide +kernel); (case q2 => rfl); (case q3 => rfl)); intro d7 o7 us7 h7 tk7 k7 e7 f7 i7 u7 s7; (rename Fr _ _ _ _ => F6); (rename News _ _ _ _ => N6); (have F7 := fr_stays F6 k7); (have N7 := news_add F6 N6 k7 e7 f7); (have n7 := news_ne N6 f7); clear e7 f7; (try dsimp only)))
set_option hygiene false in
local macro_rules | `(tactic| walk_at "call ref") => `(tactic| (k_here; k_dflt (refine' ct_part_numbers (us := us7) (Sit.use ?B ?F ?X ?T ?r ?u) ?q1 ?q2 ?q3 ?q4 ?q5 ?q6 ?q7 ?_; (walk_at "sit"); (case q1 => kba_ints); (case q2 => assumption); (case q3 => assumption); (case q4 => walk_at "side"); (case q5 => exact kda_dict (by k_asm) (by k_mem) (by assumption)); (case q6 => assumption); (case q7 => assumption)); intro l8 ys8 x8 h8 tk8 k8 e8 f8 i8; (rename Fr _ _ _ _ => F6); (rename News _ _ _ _ => N6); (have F8 := fr_stays F6 k8); (have N8 := news_add F6 N6 k8 e8 f8); (have n8 := news_ne N6 f8); clear e8 f8; (try dsimp only)))
local macro_rules | `(tactic| walk_at "getMethod bytes") => `(tactic| (k_here; (with_reducible show wpAny _ _ (getMethod (Value.bytes _ _) (PySem.Str.ofString "join") _) _ _ _); k_dflt (refine' BJ.joinMethod ?_)))

section
variable {prog p : Program} {lz : List Str} {w : World} {mean : ExcName → Option Value} {mg mb : Str → Option Value} {dp un : Nat} {gd : Option (List Code)} {base : Heap} {outer : List Env} {n : Nat}
  {Q E : Value → Shared → Prop} {s : Shared}
def pDecL (ns : List Int) (i : Nat) : List (List Int) := (List.range i).map fun i => gOcts ((ns.drop (4 * i)).take 4)
def GoodGroup (g : List Int) : Prop := 2 ≤ g.length ∧ wTot g % 2 ^ (8 - 2 * g.length) = 0
def nInts (ns : List Nat) : List Int := ns.map fun j : Nat => (j : Int)

theorem pDecL_sum (ns : List Int) (i : Nat) : ((pDecL ns i).map (·.length)).sum ≤ 3 * i := by
  induction i with
  | zero => simp [pDecL]
  | succ i ih =>
    have e : pDecL ns (i + 1) = pDecL ns i ++ [gOcts ((ns.drop (4 * i)).take 4)] := by simp [pDecL, List.range_succ]
    have := gOcts_len ((ns.drop (4 * i)).take 4)
    rw [e, List.map_append, List.sum_append]
    simp only [List.map_cons, List.map_nil, List.sum_cons, List.sum_nil, List.length_take] at *
    omega
theorem take_clip {α : Type} (l : List α) (i m : Nat) : List.take (min (i + m) l.length - i) (List.drop i l) = (l.drop i).take m := by
  rw [List.take_eq_take_iff]; simp; omega

set_option maxHeartbeats 2000000 in
theorem ct_part_decoded {b al : Array UInt8} {ks : List Int} {ns : List Nat} {t t' : Tok} (S : Sit p lz w mean mg mb dp un gd base outer (n + 3) s.heap)
  (hb : KBw.bInts b = ks) (ha : KBw.bInts al = sgn) (hks : ks = ns.map fun j => sgn.getD j 0) (hns : ∀ j ∈ ns, j < 64) (hk : ks.length ≤ 100000)
  (hgood : ∀ i, i < (ns.length + 3) / 4 → GoodGroup (((nInts ns).drop (4 * i)).take 4))
  (hret : ∀ b' t h' tk', s.heap.StaysIn h' → KBw.bInts b' = (pDecL (nInts ns) ((ns.length + 3) / 4)).flatten → Q (.bytes b' t) { s with heap := h', toks := tk' }) :
  wpAny (model prog w) (ar dp un gd outer) (call (.ref 102) [.bytes b t, .bytes al t']) Q E s := by
  k_dflt refine' enterS (binds := [(Str.ofString "signs", .bytes b t), (Str.ofString "alphabet", .bytes al t')]) S ?k6 ?k7 ?k9 ?kB ?c2 ?c3 ?c4 ?c5 ?_
  (k_dflt ((case k6 => k_is); (case k7 => k_is); (case k9 => exact BindsTo.of_eq rfl); (case c5 => decide); (case kB => exact locs rfl); (case c2 => exact rfl); (case c3 => exact rfl); (case c4 => exact rfl)); k_whole; intro L1 h1 F1 N1 B1 X1 T1 hroom hunits; (try dsimp only [List.reverse_cons, List.reverse_nil, List.nil_append, List.cons_append]); (try k_fold))
  k_with_none
  k_steps
  have hkn : ks.length = ns.length := by rw [hks]; simp
  have hyl : ys8.length = ns.length := by have := i8.length; simpa using this
  have hyb : ys8.toArray.size ≤ 100000 := by simp; omega
  have hnl : (nInts ns).length = ns.length := by simp [nInts]
  change IntsAre ys8 (nInts ns) at i8
  have hn : Builtin.Range.rangeSize 0 (((nInts ns).length : Nat) : Int) 4 = (((ns.length + 3) / 4 : Nat) : Int) := by
    rw [rangeSize_pos (by omega) (by omega), hnl]; omega
  have hnv : ∀ k ∈ nInts ns, 0 ≤ k ∧ k < 64 := by
    intro k hk
    obtain ⟨j, hj, rfl⟩ := List.mem_map.mp hk
    have := hns j hj; omega
  generalize nInts ns = is at *
  k_steps
  rename_i l4 _ l1' _ _ _ _ _ _ _ _ hr4 F4 N4 k4
  refine kst_rangeS (σ := List Value × Nat) (n := (ns.length + 3) / 4) (fun c => [(l4, W.listOf c.1.toArray c.2), (l8, W.listOf ys8.toArray x8), (d7, o7)]) (fun _ => []) (fun _ => True) [Str.ofString "group", Str.ofString "octets", Str.ofString "spare"] (fun pre c => BJ.BytesAre c.1 (pDecL is pre.length)) ⟨[], 0⟩ rfl hr4 (small_step (by omega) (by omega) (by omega) (by omega)) hn F4 N4 trivial (fun _ h => nomatch h) .nil ?_ ?_
  · rintro ⟨vs, k1⟩ pre k t u h tk own e hlt hoff _ hp F N
    dsimp only at hp F N
    have hg := hgood _ hlt
    have hsl : List.take (min (k + 4).toNat is.length - k.toNat) (List.drop k.toNat is) = (is.drop (4 * pre.length)).take 4 := by
      have e1 : k.toNat = 4 * pre.length := by omega
      have e2 : (k + 4).toNat = 4 * pre.length + 4 := by omega
      rw [e1, e2]
      exact take_clip _ _ _
    have hv5 : ∀ k ∈ (is.drop (4 * pre.length)).take 4, 0 ≤ k ∧ k < 64 := fun k hk => hnv k (List.mem_of_mem_drop (List.mem_of_mem_take hk))
    have hds : pDecL is (pre.length + 1) = pDecL is pre.length ++ [gOcts ((is.drop (4 * pre.length)).take 4)] := by simp [pDecL, List.range_succ]
    have hg4 : ((is.drop (4 * pre.length)).take 4).length ≤ 4 := by simp; omega
    generalize (is.drop (4 * pre.length)).take 4 = gr at hg hsl hv5 hds hg4
    have hgl := congrArg List.length hsl
    have hg2 := hg.1
    have hvl := hp.len
    have hvl2 : (pDecL is pre.length).length = pre.length := by simp [pDecL]
    k_steps
    · exfalso; omega
    (rename IntsAre _ (List.take _ _) => hI5)
    (rename (∀ p : Addr × Obj, p ∈ _ → p.1 < _) => l5)
    rw [hsl] at hI5
    (rename Fr _ _ _ _ => F5); (rename News _ _ _ _ => N5)
    k_dflt refine' ct_group_octets (Sit.use ?B ?F ?X ?T ?r ?u) ⟨_, (N5 _ (.head _)).1, rfl, _, rfl⟩ hI5 hg2 hg4 hv5 ?_
    walk_at "sit"
    intro l9 b9 t9 u9 h9 tk9 k9 e9 f9 i9
    have F6 := fr_stays F5 k9
    have N6 := news_add F5 N5 k9 e9 f9
    have n9 := news_ne N5 f9
    rw [hg.2] at N6
    clear e9 f9
    k_steps
    (rename Fr _ _ _ _ => F6); (rename News _ _ _ _ => N6)
    have hoff4 : ∀ p ∈ (l8, W.listOf ys8.toArray x8) :: (d7, o7) :: own, p.1 ≠ l4 := by
      intro p hp
      rcases List.mem_cons.mp hp with rfl | hp
      · exact Nat.ne_of_lt l1'.1
      · rcases List.mem_cons.mp hp with rfl | hp
        · exact Nat.ne_of_lt l1'.2
        · exact hoff p hp _ (.head _)
    refine append_K F6 N6 (.tail (fun q => n9 _ (.tail _ (.head _)) q.symm) (.tail (Nat.ne_of_gt (l5 _ (.head _))) (.head hoff4))) (fun h10 F10 N10 => ?_) (by rw [sizeLine_eq]; simp; omega)
    k_steps
    (rename News _ _ _ _ => nE); simp only [List.push_toArray] at nE
    (with_unfolding_all refine' kst_end (vs ++ [Value.bytes b9 t9], _) ?hF ?hN ?hn ?ho ?ha ?hf ?hk ?hr ?hp); ((case hF => assumption); (case hN => assumption); (case hn => kst_in); (case ho => kst_in); (case ha => rfl); (case hf => first | assumption | trivial | skip); (case hk => kst_all); (case hr => first | kst_same | (intro z hz1 hz2 hz3; simp [hz1, kstB]; done) | (intro z hz1 hz2 hz3; simp at hz3; simp [hz1, hz3, kstB]; done)))
    rw [List.length_append, List.length_singleton, hds]
    exact hp.snoc i9
  · rintro ⟨vs, k⟩ u h tk pre e _ hp F N
    dsimp only at hp F N
    rw [e] at hp
    have hfl : ((pDecL is ((ns.length + 3) / 4)).map (·.length)).sum ≤ 16777216 := by
      have := pDecL_sum is ((ns.length + 3) / 4); omega
    k_steps
    refine BJ.joinN N (.head _) hp (by rw [sizeLine_eq]; exact hfl) fun b' t' k' e' => ?_
    k_steps
    exact hret _ _ _ _ (Fr.keep (by assumption)) e'
end

section
variable {prog : Program} {w : World} {A : Around} {E : Value → Shared → Prop} {s : Shared}
theorem bytes_contains {b : Array UInt8} {c : Int} (h0 : 0 ≤ c) (h1 : c < 256) : b.contains c.toNat.toUInt8 = (KBw.bInts b).contains c := by
  rw [Bool.eq_iff_iff]
  simp only [Array.contains_iff_mem, List.contains_iff_mem, KBw.bInts, List.mem_map, Array.mem_toList_iff]
  constructor
  · intro h
    refine ⟨_, h, ?_⟩
    have : c.toNat < 256 := by omega
    simp [Nat.toUInt8, UInt8.toNat_ofNat', Nat.mod_eq_of_lt this]
    omega
  · rintro ⟨x, hx, rfl⟩
    simpa using hx
theorem in_bytes {c : Int} {t u : Tok} {b : Array UInt8} {ks : List Int} {Q : Value → Shared → Prop} (hk : KBw.bInts b = ks) (h0 : 0 ≤ c) (h1 : c < 256) (h : Q (.bool (ks.contains c)) s) :
    wpAny (model prog w) A (compareOp .In (.int c t) (.bytes b u)) Q E s := by
  subst hk
  have hT : s.TypeIs (.bytes b u) "bytes" := typeIs_bytes s b u
  show wpAny _ _ (do return .bool (← contains (.bytes b u) (.int c t))) Q E s
  refine wpAny_bind ?_
  unfold contains
  try with_reducible refine wpAny_holding ?_
  refine wpAny_bind (wpAny_specialOf hT FB.slot_bytes_contains.lookup ?_)
  show wpAny _ _ (if (some (Value.builtin "bytes.__contains__") == some Value.none) = true then _ else _) _ E s
  rw [if_neg (by rw [beq_builtin_none]; exact Bool.false_ne_true)]
  refine wpAny_bind (wpAny_callSpecialUnlessNone?_slot (name := Str.ofString "__contains__") hT FB.slot_bytes_contains
    (wpAny_call_entry FB.slot_bytes_contains hT FB.entry_bytes_contains ?_ (FB.args_bytes_contains_2 _ _)))
  show wpAny _ _ (Builtin.Bytes.containsIn "bytes.__contains__" (.bytes b u) (.int c t) >>= _) _ _ s
  unfold Builtin.Bytes.containsIn
  refine wpAny_bind (wpAny_bind (wpAny_attempt ?_))
  refine wpAny_of_eq (a := c) rfl ?_
  refine wpAny_bind (BA.buffer_bytes ?_)
  dsimp only
  rw [if_neg (by simp; omega)]
  refine wpAny_pure ?_
  refine wpAny_pure ⟨_, rfl, wpAny_truthy_bool (wpAny_pure ?_)⟩
  rw [bytes_contains h0 h1]; exact h
end

local macro_rules | `(tactic| walk_at "compareOp In int bytes") => `(tactic| (k_here; k_dflt (refine' in_bytes (ks := sgn) ?hk ?h0 ?h1 ?_; (case hk => first | rfl | decide +kernel); (case h0 => omega); (case h1 => omega))))

section
variable {prog p : Program} {lz : List Str} {w : World} {mean : ExcName → Option Value} {mg mb : Str → Option Value} {dp un : Nat} {gd : Option (List Code)} {base : Heap} {outer : List Env} {n : Nat}
  {Q E : Value → Shared → Prop} {s : Shared}
def sEnd (os : List Int) (b : Nat) : Nat := b + ((os.drop b).takeWhile fun c => sgn.contains c).length
theorem sEnd_stop {os : List Int} {b : Nat} (h : b < os.length) (hp : sgn.contains os[b] = false) : sEnd os b = b := by
  unfold sEnd
  rw [List.drop_eq_getElem_cons h, List.takeWhile_cons, hp]; simp
theorem sEnd_step {os : List Int} {b : Nat} (h : b < os.length) (hp : sgn.contains os[b] = true) : sEnd os b = sEnd os (b + 1) := by
  unfold sEnd
  rw [List.drop_eq_getElem_cons h, List.takeWhile_cons, hp]; simp; omega
theorem sEnd_end {os : List Int} {b : Nat} (h : os.length ≤ b) : sEnd os b = b := by
  unfold sEnd
  rw [List.drop_of_length_le h]; simp
theorem sEnd_le {os : List Int} {b : Nat} (h : b ≤ os.length) : b ≤ sEnd os b ∧ sEnd os b ≤ os.length := by
  unfold sEnd
  have := (List.takeWhile_sublist (l := os.drop b) fun c => sgn.contains c).length_le
  simp only [List.length_drop] at this
  omega

set_option maxHeartbeats 2000000 in
theorem ct_shift_behind {o : Array UInt8} {os : List Int} {t t1 : Tok} {b : Nat} (S : Sit p lz w mean mg mb dp un gd base outer (n + 2) s.heap)
  (ho : KBw.bInts o = os) (hb : b ≤ os.length) (hk : os.length ≤ 200000) (hlt : sEnd os b < os.length) (h45 : os[sEnd os b]? = some 45)
  (hret : ∀ t h' tk', s.heap.StaysIn h' → Q (.int (sEnd os b : Nat) t) { s with heap := h', toks := tk' }) :
  wpAny (model prog w) (ar dp un gd outer) (call (.ref 144) [.bytes o t, .int b t1]) Q E s := by
  k_dflt refine' enterS (binds := [(Str.ofString "octets", .bytes o t), (Str.ofString "begin", .int b t1)]) S ?k6 ?k7 ?k9 ?kB ?c2 ?c3 ?c4 ?c5 ?_
  (k_dflt ((case k6 => k_is); (case k7 => k_is); (case k9 => exact BindsTo.of_eq rfl); (case c5 => decide); (case kB => exact locs rfl); (case c2 => exact rfl); (case c3 => exact rfl); (case c4 => exact rfl)); k_whole; intro L1 h1 F1 N1 B1 X1 T1 hroom hunits; (try dsimp only [List.reverse_cons, List.reverse_nil, List.nil_append, List.cons_append]); (try k_fold))
  k_with_none
  k_steps
  rename_i h6 F6 N6
  refine unhalt (ksw_while (σ := Nat × Tok) (fun _ => []) (fun c => [(Str.ofString "end", .int c.1 c.2)]) (fun _ => True) [] (fun c => c.1 ≤ os.length ∧ sEnd os c.1 = sEnd os b) (fun c => os.length - c.1) (b, t1) F6 N6 trivial ?_ ⟨hb, rfl⟩ ?_)
  · intro p hp; rw [List.mem_singleton.mp hp]; rfl
  · rintro ⟨i, ti⟩ u h tk _ hp F N
    dsimp only at hp F N
    have hi : i < os.length := by have := sEnd_le hp.1; omega
    have hst := sEnd_stop hi
    have hsn := sEnd_step hi
    have hgd : os.getD (i : Int).toNat 0 = os[i] := by simp [hi]
    have h45' : sgn.contains os[i] = false → os[i] = 45 := fun q => by
      have e := hst q
      rw [hp.2] at e
      rw [e, List.getElem?_eq_getElem hi] at h45
      exact Option.some.inj h45
    generalize os[i] = c0 at hst hsn hgd h45'
    k_steps
    · (with_unfolding_all refine' ksw_end (i + 1, _) ?wF ?wN ?wn ?wf ?wk ?wr ?wp ?wm); ((case wF => assumption); (case wN => assumption); (case wn => kst_in); (case wf => first | assumption | trivial | skip); (case wk => first | (intro p hp; cases List.mem_singleton.mp hp; with_unfolding_all rfl) | kst_all | (intro p hp; simp at hp; simp [hp]; done) | skip); (case wr => first | ksw_same | (intro z hz2 hz3; simp at hz2; simp [hz2, kstB]; done) | (intro z hz2 hz3; simp at hz2 hz3; simp [hz2, hz3, kstB]; done) | skip))
      · exact ⟨hi, (hsn (by rw [← hgd]; assumption)).symm.trans hp.2⟩
      · show os.length - (i + 1) < os.length - i; omega
    · exfalso; omega
    · exfalso
      have := h45' (by rw [← hgd]; assumption)
      omega
    · have e := hp.2.symm.trans (hst (by rw [← hgd]; assumption))
      rw [e] at hret
      exact hret _ _ _ (Fr.keep (by assumption))
end

section
variable {prog p : Program} {lz : List Str} {w : World} {mean : ExcName → Option Value} {mg mb : Str → Option Value} {dp un : Nat} {gd : Option (List Code)} {base : Heap} {outer : List Env} {n : Nat}
  {Q E : Value → Shared → Prop} {s : Shared}
def dStep (st : List Nat × Int) (code : Int) : Option (List Nat × Int) :=
  if 0 < st.2 then if 56320 ≤ code ∧ code ≤ 57343 then some (st.1 ++ [(65536 + (st.2 - 55296) * 1024 + code - 56320).toNat], 0) else none
  else if 55296 ≤ code ∧ code ≤ 56319 then some (st.1, code)
  else if 55296 ≤ code ∧ code ≤ 57343 then none
  else if 32 ≤ code ∧ code ≤ 126 then none
  else some (st.1 ++ [code.toNat], 0)
def dRun (us : List Int) : Option (List Nat × Int) := us.foldlM dStep ([], 0)
theorem dRun_snoc (us : List Int) (c : Int) : dRun (us ++ [c]) = (dRun us).bind fun st => dStep st c := by
  simp [dRun, List.foldlM_append]
def unitAt (rs : List Int) (i : Nat) : Int := rs.getD (2 * i) 0 * 256 + rs.getD (2 * i + 1) 0
def unitsOf (rs : List Int) (n : Nat) : List Int := (List.range n).map (unitAt rs)
theorem unitsOf_succ (rs : List Int) (n : Nat) : unitsOf rs (n + 1) = unitsOf rs n ++ [unitAt rs n] := by simp [unitsOf, List.range_succ]
theorem dRun_some {rs : List Int} {n : Nat} {st : List Nat × Int} (h : dRun (unitsOf rs n) = some st) {i : Nat} (hi : i ≤ n) : ∃ st', dRun (unitsOf rs i) = some st' := by
  induction n generalizing st with
  | zero => obtain rfl : i = 0 := by omega
            exact ⟨_, h⟩
  | succ n ih =>
    rcases Nat.lt_or_ge n i with h1 | h1
    · obtain rfl : i = n + 1 := by omega
      exact ⟨_, h⟩
    · rw [unitsOf_succ, dRun_snoc] at h
      cases hr : dRun (unitsOf rs n) with
      | none => rw [hr] at h; cases h
      | some st' => exact ih hr h1

theorem pow10 : (2 : Int) ^ Int.toNat 10 = 1024 := rfl
local macro_rules | `(tactic| walk_at "call builtin:chr") => `(tactic| (k_here; k_dflt (refine' chr_of_range ?h0 ?h1 ?_; (case h0 => first | omega | (simp only [pow10]; omega)); (case h1 => first | omega | (simp only [pow10]; omega)))))
theorem join_singles (ds : List Nat) : PySem.Txt.join (PySem.Str.ofString "") (ds.map fun d => (⟨#[d]⟩ : PySem.Str)) = ⟨ds.toArray⟩ := by
  show Builtin.Str.glued _ _ = _
  rw [StrLaws.glued_eq_join]
  have key : ∀ ds : List Nat, Str.join (PySem.Str.ofString "") (ds.map fun d => (⟨#[d]⟩ : PySem.Str)) = ⟨ds.toArray⟩ := by
    intro ds
    induction ds with
    | nil => rfl
    | cons d r ih =>
      cases r with
      | nil => rfl
      | cons d' r =>
        simp only [List.map_cons] at ih ⊢
        rw [Str.join, ih]
        · show (⟨(#[d] ++ (PySem.Str.ofString "").cps) ++ (d' :: r).toArray⟩ : PySem.Str) = _
          simp [show (PySem.Str.ofString "").cps = #[] from rfl]
        · simp
  exact key ds
theorem strs_snoc {vs : List Value} {ds : List Nat} (h : StrsAre vs (ds.map fun d => (⟨#[d]⟩ : PySem.Str))) (d : Nat) (t : Tok) : StrsAre (vs ++ [Value.str ⟨#[d]⟩ t]) ((ds ++ [d]).map fun d => (⟨#[d]⟩ : PySem.Str)) := by
  rw [List.map_append]
  exact StrsAre.append' h (.cons _ _ .nil)
abbrev UC := List Value × Nat × List Nat × Int × Tok
theorem units_end {rs : List Int} {l4 : Addr} {h₀ : Heap} {L : Addr} {own : List (Addr × Obj)} {x : Str} {stored : List Str} {m₀ m' : Str → Option Value} {pre : List Int} {s₁ : Shared} {h' : Heap} {tk : Nat} {ws : List Value} {e : Nat} {ds' : List Nat} {hi' : Int} {th : Tok}
    (F : Fr h₀ L h' m') (N : News h₀ L h' ((l4, W.listOf ws.toArray e) :: own)) (hk : m' (Str.ofString "high") = some (.int hi' th)) (hr : ∀ z, z ≠ x → z ≠ Str.ofString "high" → stored.contains z = false → m' z = m₀ z)
    (h1 : dRun (unitsOf rs pre.length) = some (ds', hi')) (h2 : StrsAre ws (ds'.map fun d => (⟨#[d]⟩ : PySem.Str))) (h3 : hi' = 0 ∨ (55296 ≤ hi' ∧ hi' ≤ 56319)) (h4 : ds'.length ≤ pre.length) :
    InvEndN h₀ L (KstS (fun c : UC => [(l4, W.listOf c.1.toArray c.2.1)]) (fun c => [(Str.ofString "high", .int c.2.2.2.1 c.2.2.2.2)]) (fun _ => True) x stored m₀ (fun pre c => dRun (unitsOf rs pre.length) = some (c.2.2.1, c.2.2.2.1) ∧ StrsAre c.1 (c.2.2.1.map fun d => (⟨#[d]⟩ : PySem.Str)) ∧ (c.2.2.2.1 = 0 ∨ (55296 ≤ c.2.2.2.1 ∧ c.2.2.2.1 ≤ 56319)) ∧ c.2.2.1.length ≤ pre.length) pre) own [l4] s₁ { s₁ with heap := h', toks := tk } :=
  kst_end (ws, e, ds', hi', th) F N (fun p hp => by rw [List.mem_singleton.mp hp]; exact .head _) (fun p hp => .tail _ hp) rfl trivial (fun p hp => by cases List.mem_singleton.mp hp; exact hk) (fun z hz1 hz2 hz3 => hr z hz1 (hz2 _ (.head _)) hz3) ⟨h1, h2, h3, h4⟩
set_option maxHeartbeats 2000000 in
theorem ct_units_text {r : Array UInt8} {rs : List Int} {t t1 : Tok} {m : Nat} {b : Nat} {ds : List Nat} (S : Sit p lz w mean mg mb dp un gd base outer (n + 2) s.heap)
  (hr : KBw.bInts r = rs) (hm : rs.length = 2 * m) (hk : rs.length ≤ 200000) (hb : b ≤ 200000) (hd : dRun (unitsOf rs m) = some (ds, 0))
  (hret : ∀ t h' tk', s.heap.StaysIn h' → Q (.str ⟨ds.toArray⟩ t) { s with heap := h', toks := tk' }) :
  wpAny (model prog w) (ar dp un gd outer) (call (.ref 151) [.bytes r t, .int b t1]) Q E s := by
  k_dflt refine' enterS (binds := [(Str.ofString "raw", .bytes r t), (Str.ofString "begin", .int b t1)]) S ?k6 ?k7 ?k9 ?kB ?c2 ?c3 ?c4 ?c5 ?_
  (k_dflt ((case k6 => k_is); (case k7 => k_is); (case k9 => exact BindsTo.of_eq rfl); (case c5 => decide); (case kB => exact locs rfl); (case c2 => exact rfl); (case c3 => exact rfl); (case c4 => exact rfl)); k_whole; intro L1 h1 F1 N1 B1 X1 T1 hroom hunits; (try dsimp only [List.reverse_cons, List.reverse_nil, List.nil_append, List.cons_append]); (try k_fold))
  k_with_none
  k_steps
  rename_i l4 _ _ _ _ _ _ _ _ _ _ _ hr4 F4 N4 k4
  have hn : Builtin.Range.rangeSize 0 ((rs.length : Nat) : Int) 2 = (m : Int) := by
    rw [rangeSize_pos (by omega) (by omega)]; omega
  refine' kst_rangeS (σ := List Value × Nat × List Nat × Int × Tok) (n := m) (fun c => [(l4, W.listOf c.1.toArray c.2.1)]) (fun c => [(Str.ofString "high", .int c.2.2.2.1 c.2.2.2.2)]) (fun _ => True) [Str.ofString "at", Str.ofString "code"] (fun pre c => dRun (unitsOf rs pre.length) = some (c.2.2.1, c.2.2.2.1) ∧ StrsAre c.1 (c.2.2.1.map fun d => (⟨#[d]⟩ : PySem.Str)) ∧ (c.2.2.2.1 = 0 ∨ (55296 ≤ c.2.2.2.1 ∧ c.2.2.2.1 ≤ 56319)) ∧ c.2.2.1.length ≤ pre.length) ⟨[], 0, [], 0, ?tk0⟩ rfl hr4 (small_step (by omega) (by omega) (by omega) (by omega)) hn F4 N4 trivial ?hk0 ⟨rfl, .nil, .inl rfl, Nat.zero_le _⟩ ?_ ?_
  case hk0 => intro p hp; cases List.mem_singleton.mp hp; rfl
  · rintro ⟨vs, k1, ds0, hi, th⟩ pre k t u h tk own e hlt hoff _ ⟨hp1, hp2, hp3, hp4⟩ F N
    dsimp only at hp1 hp2 hp3 hp4 F N
    obtain ⟨st', hst'⟩ := dRun_some hd (i := pre.length + 1) (by omega)
    have hst2 := hst'
    rw [unitsOf_succ, dRun_snoc, hp1] at hst'
    change dStep (ds0, hi) (unitAt rs pre.length) = some st' at hst'
    have ek : k.toNat = 2 * pre.length := by omega
    have ek1 : (k + 1).toNat = 2 * pre.length + 1 := by omega
    have hrin : KBa.In rs := fun x hx => KBw.ints_in (b := r) (hr.symm ▸ hx)
    have hA := KBw.getD_in (j := 2 * pre.length) hrin
    have hB := KBw.getD_in (j := 2 * pre.length + 1) hrin
    unfold unitAt at hst'
    rw [← ek1, ← ek] at hst'
    rw [← ek] at hA
    rw [← ek1] at hB
    have hvl := hp2.length
    simp only [List.length_map] at hvl
    unfold dStep at hst'
    dsimp only at hst'
    by_cases c1 : 0 < hi
    · rw [if_pos c1] at hst'
      by_cases c2 : 56320 ≤ rs.getD k.toNat 0 * 256 + rs.getD (k + 1).toNat 0 ∧ rs.getD k.toNat 0 * 256 + rs.getD (k + 1).toNat 0 ≤ 57343
      · rw [if_pos c2] at hst'
        cases hst'
        obtain ⟨c21, c22⟩ := c2
        k_steps
        (rename News _ _ _ _ => nE); simp only [List.push_toArray, pow10] at nE
        refine units_end (by assumption) nE (by with_unfolding_all rfl) (by (intro z hz1 hz2 hz3; simp at hz3; simp [hz1, hz2, hz3, kstB])) (by rw [List.length_append, List.length_singleton]; exact hst2) (strs_snoc hp2 _ _) (.inl rfl) (by simp; omega)
      · rw [if_neg c2] at hst'; cases hst'
    · rw [if_neg c1] at hst'
      by_cases c2 : 55296 ≤ rs.getD k.toNat 0 * 256 + rs.getD (k + 1).toNat 0 ∧ rs.getD k.toNat 0 * 256 + rs.getD (k + 1).toNat 0 ≤ 56319
      · rw [if_pos c2] at hst'
        cases hst'
        obtain ⟨c21, c22⟩ := c2
        k_steps
        (rename News _ _ _ _ => nE)
        refine units_end (by assumption) nE (by with_unfolding_all rfl) (by (intro z hz1 hz2 hz3; simp at hz3; simp [hz1, hz2, hz3, kstB])) (by rw [List.length_append, List.length_singleton]; exact hst2) hp2 (.inr ⟨c21, c22⟩) (by simp; omega)
      · rw [if_neg c2] at hst'
        by_cases c3 : 55296 ≤ rs.getD k.toNat 0 * 256 + rs.getD (k + 1).toNat 0 ∧ rs.getD k.toNat 0 * 256 + rs.getD (k + 1).toNat 0 ≤ 57343
        · rw [if_pos c3] at hst'; cases hst'
        · rw [if_neg c3] at hst'
          by_cases c4 : 32 ≤ rs.getD k.toNat 0 * 256 + rs.getD (k + 1).toNat 0 ∧ rs.getD k.toNat 0 * 256 + rs.getD (k + 1).toNat 0 ≤ 126
          · rw [if_pos c4] at hst'; cases hst'
          · rw [if_neg c4] at hst'
            cases hst'
            k_steps
            all_goals ((rename News _ _ _ _ => nE); simp only [List.push_toArray] at nE; have h00 : hi = 0 := by omega)
            all_goals exact units_end (by assumption) (by assumption) (by with_unfolding_all rfl) (by (intro z hz1 hz2 hz3; simp at hz3; simp [hz1, hz2, hz3, kstB])) (by rw [List.length_append, List.length_singleton, h00]; exact hst2) (strs_snoc hp2 _ _) (.inl h00) (by simp; omega)
  · rintro ⟨vs, k, ds0, hi, th⟩ u h tk pre e _ ⟨hp1, hp2, hp3, hp4⟩ F N
    dsimp only at hp1 hp2 hp3 hp4 F N
    rw [e, hd] at hp1
    cases hp1
    k_steps
    refine KT.join_1 (ys := vs) (l := ds) (g := fun d => (⟨#[d]⟩ : PySem.Str)) ⟨_, (N _ (.head _)).1, rfl, _, rfl⟩ (by have := hp2.carried; rw [List.map_map] at this; exact this) (fun _ _ => rfl) (by omega) fun t' k' _ => ?_
    rw [join_singles]
    k_steps
    exact hret _ _ _ (Fr.keep (by assumption))
end

section
variable {prog p : Program} {lz : List Str} {w : World} {mean : ExcName → Option Value} {mg mb : Str → Option Value} {dp un : Nat} {gd : Option (List Code)} {base : Heap} {outer : List Env} {n : Nat}
  {Q E : Value → Shared → Prop} {s : Shared}
set_option maxHeartbeats 2000000 in
theorem ct_shifted {o : Array UInt8} {os : List Int} {t t1 t2 : Tok} {b e m : Nat} {ns : List Nat} {ds : List Nat} (S : Sit p lz w mean mg mb dp un gd base outer (n + 4) s.heap)
  (ho : KBw.bInts o = os) (hbe : b ≤ e) (he : e ≤ os.length) (hk : os.length ≤ 100000)
  (hsl : (os.drop b).take (e - b) = ns.map fun j => sgn.getD j 0) (hns : ∀ j ∈ ns, j < 64)
  (hgood : ∀ i, i < (ns.length + 3) / 4 → GoodGroup (((nInts ns).drop (4 * i)).take 4))
  (hm : ((pDecL (nInts ns) ((ns.length + 3) / 4)).flatten).length = 2 * m) (hd : dRun (unitsOf (pDecL (nInts ns) ((ns.length + 3) / 4)).flatten m) = some (ds, 0))
  (hret : ∀ t h' tk', s.heap.StaysIn h' → Q (.str ⟨ds.toArray⟩ t) { s with heap := h', toks := tk' }) :
  wpAny (model prog w) (ar dp un gd outer) (call (.ref 158) [.bytes o t, .int b t1, .int e t2]) Q E s := by
  k_dflt refine' enterS (binds := [(Str.ofString "octets", .bytes o t), (Str.ofString "begin", .int b t1), (Str.ofString "end", .int e t2)]) S ?k6 ?k7 ?k9 ?kB ?c2 ?c3 ?c4 ?c5 ?_
  (k_dflt ((case k6 => k_is); (case k7 => k_is); (case k9 => exact BindsTo.of_eq rfl); (case c5 => decide); (case kB => exact locs rfl); (case c2 => exact rfl); (case c3 => exact rfl); (case c4 => exact rfl)); k_whole; intro L1 h1 F1 N1 B1 X1 T1 hroom hunits; (try dsimp only [List.reverse_cons, List.reverse_nil, List.nil_append, List.cons_append]); (try k_fold))
  k_with_none
  k_steps
  (rename KBw.bInts (KBy.picked _ _ _) = _ => hb5); (rename Fr _ _ _ _ => F5); (rename News _ _ _ _ => N5)
  rw [Nat.min_eq_left he, Nat.min_eq_left (Nat.le_trans hbe he), hsl] at hb5
  have hnl : (ns.map fun j => sgn.getD j 0).length ≤ 100000 := by rw [← hsl]; simp; omega
  k_dflt refine' ct_part_decoded (ns := ns) (Sit.use ?B ?F ?X ?T ?r ?u) hb5 ?ha rfl hns hnl hgood ?_
  walk_at "sit"
  case ha => first | rfl | decide +kernel
  intro b6 t6 h6 tk6 k6 i6
  have F6 := fr_stays F5 k6
  have N6 := news_stays N5 k6
  have hrl : (pDecL (nInts ns) ((ns.length + 3) / 4)).flatten.length ≤ 200000 := by
    have : ((pDecL (nInts ns) ((ns.length + 3) / 4)).map List.length).sum ≤ 3 * ((ns.length + 3) / 4) := pDecL_sum (nInts ns) ((ns.length + 3) / 4)
    rw [List.length_flatten]
    simp only [List.length_map] at hnl
    omega
  generalize (pDecL (nInts ns) ((ns.length + 3) / 4)).flatten = rs at i6 hm hd hrl
  k_steps
  · exfalso
    have : (rs.length : Int).fmod 2 = (rs.length : Int) % 2 := Int.fmod_eq_emod_of_nonneg _ (by omega)
    omega
  · (rename Fr _ _ _ _ => F7); (rename News _ _ _ _ => N7)
    k_dflt refine' ct_units_text (m := m) (ds := ds) (Sit.use ?B2 ?F2 ?X2 ?T2 ?r2 ?u2) i6 hm hrl ?hb2 hd ?_
    case B2 => k_asm
    case F2 => exact F7
    case X2 => k_asm
    case T2 => k_asm
    case r2 => omega
    case u2 => omega
    case hb2 => omega
    intro t8 h8 tk8 k8
    have F8 := fr_stays F7 k8
    k_steps
    exact hret _ _ _ (Fr.keep (by assumption))
end

set_option hygiene false in
local macro_rules | `(tactic| walk_at "call ref") => `(tactic| (k_here; k_dflt (refine' ct_shift_behind (Sit.use ?B ?F ?X ?T ?r ?u) ?q1 ?q2 ?q3 ?q4 ?q5 ?_; (walk_at "sit"); (case q1 => kba_ints); (case q2 => walk_at "side"); (case q3 => walk_at "side"); (case q4 => walk_at "side"); (case q5 => assumption)); intro t7 h7 tk7 k7; (rename Fr _ _ _ _ => F6); (rename News _ _ _ _ => N6); (have F7 := fr_stays F6 k7); (have N7 := news_stays N6 k7); (try dsimp only)))

section
variable {prog p : Program} {lz : List Str} {w : World} {mean : ExcName → Option Value} {mg mb : Str → Option Value} {dp un : Nat} {gd : Option (List Code)} {base : Heap} {outer : List Env} {n : Nat}
  {Q E : Value → Shared → Prop} {s : Shared}
/-- a shift from b to e is well formed and reads as ds -/
def ShiftOk (os : List Int) (b e : Nat) (ds : List Nat) : Prop :=
  ∃ (ns : List Nat) (m : Nat), (os.drop b).take (e - b) = ns.map (fun j => sgn.getD j 0) ∧ (∀ j ∈ ns, j < 64) ∧ (∀ i, i < (ns.length + 3) / 4 → GoodGroup (((nInts ns).drop (4 * i)).take 4)) ∧
    ((pDecL (nInts ns) ((ns.length + 3) / 4)).flatten).length = 2 * m ∧ dRun (unitsOf (pDecL (nInts ns) ((ns.length + 3) / 4)).flatten m) = some (ds, 0)
inductive Steps (os : List Int) : Nat → Int → List Nat → Prop
  | done {at' : Nat} {sh : Int} : os.length ≤ at' → Steps os at' sh []
  | plain {at' : Nat} {sh c : Int} {ds : List Nat} : os[at']? = some c → 32 ≤ c → c ≤ 126 → c ≠ 38 → Steps os (at' + 1) sh ds → Steps os at' sh (c.toNat :: ds)
  | amp {at' : Nat} {sh : Int} {ds : List Nat} : os[at']? = some 38 → sEnd os (at' + 1) = at' + 1 → os[at' + 1]? = some 45 → Steps os (at' + 2) sh ds → Steps os at' sh (38 :: ds)
  | shift {at' : Nat} {sh : Int} {ds1 ds2 : List Nat} : os[at']? = some 38 → sEnd os (at' + 1) ≠ at' + 1 → os[sEnd os (at' + 1)]? = some 45 → (at' : Int) ≠ sh → ShiftOk os (at' + 1) (sEnd os (at' + 1)) ds1 →
      Steps os (sEnd os (at' + 1) + 1) (sEnd os (at' + 1) + 1 : Nat) ds2 → Steps os at' sh (ds1 ++ ds2)

theorem join_lists (tx : List (List Nat)) : PySem.Txt.join (PySem.Str.ofString "") (tx.map fun d => (⟨d.toArray⟩ : PySem.Str)) = ⟨tx.flatten.toArray⟩ := by
  show Builtin.Str.glued _ _ = _
  rw [StrLaws.glued_eq_join]
  induction tx with
  | nil => rfl
  | cons d r ih =>
    cases r with
    | nil => simp [Str.join]
    | cons d' r =>
      simp only [List.map_cons] at ih ⊢
      rw [Str.join, ih]
      · show (⟨(d.toArray ++ (PySem.Str.ofString "").cps) ++ (d' :: r).flatten.toArray⟩ : PySem.Str) = _
        simp [show (PySem.Str.ofString "").cps = #[] from rfl]
      · simp
theorem strs_snocL {vs : List Value} {tx : List (List Nat)} (h : StrsAre vs (tx.map fun d => (⟨d.toArray⟩ : PySem.Str))) (d : List Nat) (t : Tok) : StrsAre (vs ++ [Value.str ⟨d.toArray⟩ t]) ((tx ++ [d]).map fun d => (⟨d.toArray⟩ : PySem.Str)) := by
  rw [List.map_append]
  exact StrsAre.append' h (.cons _ _ .nil)
abbrev VC := List Value × Nat × Nat × Tok × Int × Tok × List (List Nat)
def VP (os : List Int) (ds : List Nat) (c : VC) : Prop := ∃ ds2, Steps os c.2.2.1 c.2.2.2.2.1 ds2 ∧ c.2.2.2.2.2.2.flatten ++ ds2 = ds ∧ StrsAre c.1 (c.2.2.2.2.2.2.map fun d => (⟨d.toArray⟩ : PySem.Str)) ∧ c.2.2.1 ≤ os.length ∧ c.2.2.2.2.2.2.length ≤ c.2.2.1
theorem sev_end {os : List Int} {ds ds2 : List Nat} {l4 : Addr} {h₀ : Heap} {L : Addr} {rest : List (Addr × Obj)} {stored : List Str} {m₀ m' : Str → Option Value} {s₁ : Shared} {h' : Heap} {tk : Nat} {ws : List Value} {e : Nat} {i' : Nat} {ti' tsh' : Tok} {sh' : Int} {tx' : List (List Nat)} {c : VC}
    (F : Fr h₀ L h' m') (N : News h₀ L h' ((l4, W.listOf ws.toArray e) :: rest)) (hk1 : m' (Str.ofString "at") = some (.int (i' : Nat) ti')) (hk2 : m' (Str.ofString "shift_end") = some (.int sh' tsh')) (hr : ∀ z, z ≠ Str.ofString "at" → z ≠ Str.ofString "shift_end" → stored.contains z = false → m' z = m₀ z)
    (h1 : Steps os i' sh' ds2) (h2 : tx'.flatten ++ ds2 = ds) (h3 : StrsAre ws (tx'.map fun d => (⟨d.toArray⟩ : PySem.Str))) (h4 : i' ≤ os.length) (h5 : tx'.length ≤ i') (hm : os.length - i' < os.length - c.2.2.1) :
    KswEnd h₀ L s₁ (fun c : VC => [(l4, W.listOf c.1.toArray c.2.1)]) (fun c => [(Str.ofString "at", .int c.2.2.1 c.2.2.2.1), (Str.ofString "shift_end", .int c.2.2.2.2.1 c.2.2.2.2.2.1)]) (fun _ => True) stored m₀ (VP os ds) (fun c => os.length - c.2.2.1) c { s₁ with heap := h', toks := tk } :=
  ksw_end (ws, e, i', ti', sh', tsh', tx') F N (fun p hp => by rw [List.mem_singleton.mp hp]; exact .head _) trivial (fun p hp => by
      rcases List.mem_cons.mp hp with rfl | hp
      · exact hk1
      · cases List.mem_singleton.mp hp; exact hk2) (fun z hz2 hz3 => hr z (hz2 _ (.head _)) (hz2 _ (.tail _ (.head _))) hz3) ⟨ds2, h1, h2, h3, h4, h5⟩ hm
set_option maxHeartbeats 2000000 in
theorem ct_seven_text {o : Array UInt8} {os : List Int} {t : Tok} {ds : List Nat} (S : Sit p lz w mean mg mb dp un gd base outer (n + 5) s.heap)
  (ho : KBw.bInts o = os) (hk : os.length ≤ 100000) (hd : Steps os 0 (-1) ds) (hdl : ds.length ≤ 100000)
  (hret : ∀ t h' tk', s.heap.StaysIn h' → Q (.str ⟨ds.toArray⟩ t) { s with heap := h', toks := tk' }) :
  wpAny (model prog w) (ar dp un gd outer) (call (.ref 165) [.bytes o t]) Q E s := by
  k_dflt refine' enterS (binds := [(Str.ofString "octets", .bytes o t)]) S ?k6 ?k7 ?k9 ?kB ?c2 ?c3 ?c4 ?c5 ?_
  (k_dflt ((case k6 => k_is); (case k7 => k_is); (case k9 => exact BindsTo.of_eq rfl); (case c5 => decide); (case kB => exact locs rfl); (case c2 => exact rfl); (case c3 => exact rfl); (case c4 => exact rfl)); k_whole; intro L1 h1 F1 N1 B1 X1 T1 hroom hunits; (try dsimp only [List.reverse_cons, List.reverse_nil, List.nil_append, List.cons_append]); (try k_fold))
  k_with_none
  k_steps
  rename_i l4 _ _ _ _ _ F6 N6
  refine' unhalt (ksw_while (σ := List Value × Nat × Nat × Tok × Int × Tok × List (List Nat)) (fun c => [(l4, W.listOf c.1.toArray c.2.1)]) (fun c => [(Str.ofString "at", .int c.2.2.1 c.2.2.2.1), (Str.ofString "shift_end", .int c.2.2.2.2.1 c.2.2.2.2.2.1)]) (fun _ => True) [Str.ofString "code", Str.ofString "end"]
    (VP os ds) (fun c => os.length - c.2.2.1) ([], 0, 0, ?tk0, -1, ?tk1, []) F6 N6 trivial ?hk0 ⟨ds, hd, rfl, .nil, Nat.zero_le _, Nat.zero_le _⟩ ?_)
  case hk0 =>
    intro p hp
    rcases List.mem_cons.mp hp with rfl | hp
    · rfl
    · cases List.mem_singleton.mp hp; rfl
  · rintro ⟨vs, k1, i, ti, sh, tsh, tx⟩ u h tk _ ⟨ds2, hS, hfl, hst, hi, htl⟩ F N
    dsimp only at hS hfl hst hi htl F N
    have hvl := hst.length
    simp only [List.length_map] at hvl
    cases hS with
    | done hge =>
      rw [List.append_nil] at hfl
      subst hfl
      have hwt : ((tx.map fun d => (⟨d.toArray⟩ : PySem.Str)).map (·.length)).sum + (tx.map fun d => (⟨d.toArray⟩ : PySem.Str)).length ≤ 1048576 := by
        have e1 : (tx.map fun d => (⟨d.toArray⟩ : PySem.Str)).map (·.length) = tx.map List.length := by rw [List.map_map]; refine List.map_congr_left fun d _ => ?_; simp [Str.length]
        rw [e1, ← List.length_flatten, List.length_map]; omega
      k_steps
      refine join_listW (items := vs.toArray) ⟨_, (N _ (.head _)).1, rfl, _, rfl⟩ hst (by decide) hwt fun t' k' => ?_
      rw [join_lists]
      k_steps
      exact hret _ _ _ (Fr.keep (by assumption))
    | plain h1 h2 h3 h4 h5 =>
      rename_i c ds2
      have hlt : i < os.length := (List.getElem?_eq_some_iff.mp h1).1
      have hgd : os.getD (i : Int).toNat 0 = c := by simp [h1]
      k_steps
      · (rename News _ _ _ _ => nE); simp only [List.push_toArray] at nE
        have e9 : (os.getD (i : Int).toNat 0).toNat = c.toNat := by rw [hgd]
        exact sev_end (i' := i + 1) (tx' := tx ++ [[(os.getD (i : Int).toNat 0).toNat]]) (by assumption) nE (by with_unfolding_all rfl) (by with_unfolding_all rfl) (by (intro z hz1 hz2 hz3; simp at hz3; simp [hz1, hz2, hz3, kstB])) h5 (by rw [e9]; simpa using hfl) (strs_snocL hst [(os.getD (i : Int).toNat 0).toNat] _) hlt (by simp; omega) (by show os.length - (i + 1) < os.length - i; omega)
      · exfalso; omega
    | amp h1 h2 h3 h4 =>
      have hlt : i < os.length := (List.getElem?_eq_some_iff.mp h1).1
      have hlt2 : i + 1 < os.length := (List.getElem?_eq_some_iff.mp h3).1
      have hgd : os.getD (i : Int).toNat 0 = 38 := by simp [h1]
      k_steps
      · exfalso; omega
      · (rename Fr _ _ _ _ => F5); (rename News _ _ _ _ => N5)
        k_dflt refine' ct_shift_behind (b := i + 1) (Sit.use ?B ?F ?X ?T ?r ?u) ho (by omega) (by omega) (by omega) (by rw [h2]; exact h3) ?_
        walk_at "sit"
        intro t9 h9 tk9 k9
        have F9 := fr_stays F5 k9
        have N9 := news_stays N5 k9
        rw [h2]
        k_steps
        · (rename News _ _ _ _ => nE); simp only [List.push_toArray] at nE
          exact sev_end (i' := i + 2) (tx' := tx ++ [[38]]) (by assumption) nE (by with_unfolding_all rfl) (by with_unfolding_all rfl) (by (intro z hz1 hz2 hz3; simp at hz3; simp [hz1, hz2, hz3, kstB])) h4 (by simpa using hfl) (strs_snocL hst [38] _) hlt2 (by simp; omega) (by show os.length - (i + 2) < os.length - i; omega)
        · exfalso; omega
    | shift h1 h2 h3 h4 h5 h6 =>
      rename_i ds1 ds2
      have hlt : i < os.length := (List.getElem?_eq_some_iff.mp h1).1
      have hlt2 : sEnd os (i + 1) < os.length := (List.getElem?_eq_some_iff.mp h3).1
      have hle2 := sEnd_le (os := os) (b := i + 1) hlt
      have hgd : os.getD (i : Int).toNat 0 = 38 := by simp [h1]
      k_steps
      all_goals try (exfalso; omega)
      (rename Fr _ _ _ _ => F5); (rename News _ _ _ _ => N5)
      k_dflt refine' ct_shifted (b := i + 1) (e := sEnd os (i + 1)) (ds := ds1) (ns := h5.choose) (m := h5.choose_spec.choose) (Sit.use ?B2 ?F2 ?X2 ?T2 ?r2 ?u2) ho hle2.1 hle2.2 hk h5.choose_spec.choose_spec.1 h5.choose_spec.choose_spec.2.1 h5.choose_spec.choose_spec.2.2.1 h5.choose_spec.choose_spec.2.2.2.1 h5.choose_spec.choose_spec.2.2.2.2 ?_
      case B2 => k_asm
      case F2 => exact F5
      case X2 => k_asm
      case T2 => k_asm
      case r2 => omega
      case u2 => omega
      intro t9 h9 tk9 k9
      have F9 := fr_stays F5 k9
      have N9 := news_stays N5 k9
      k_steps
      (rename News _ _ _ _ => nE); simp only [List.push_toArray] at nE
      exact sev_end (i' := sEnd os (i + 1) + 1) (tx' := tx ++ [ds1]) (by assumption) nE (by with_unfolding_all rfl) (by with_unfolding_all rfl) (by (intro z hz1 hz2 hz3; simp at hz3; simp [hz1, hz2, hz3, kstB])) h6 (by rw [List.flatten_append]; simpa using hfl) (strs_snocL hst ds1 _) (by omega) (by simp; omega) (by show os.length - (sEnd os (i + 1) + 1) < os.length - i; omega)
end

/-! plain mathematics: the numbers of a shift -/
def gNums (ks : List Int) : List Nat := (List.range (ks.length + 1)).map fun i => ((gTot ks * 2 ^ (6 - 2 * ks.length)) / 2 ^ (6 * (ks.length - i)) % 64).toNat
theorem gCodes_nums (sg ks : List Int) : gCodes sg ks = (gNums ks).map fun j => sg.getD j 0 := by
  simp only [gCodes, gNums, List.map_map]; rfl
def pNums : List Int → List Nat
  | a :: b :: c :: r => gNums [a, b, c] ++ pNums r
  | [a, b] => gNums [a, b]
  | [a] => gNums [a]
  | [] => []
theorem pEnc_front (sg : List Int) (a b c : Int) (r : List Int) : ∀ i, pEnc sg (a :: b :: c :: r) (i + 1) = gCodes sg [a, b, c] ++ pEnc sg r i
  | 0 => by simp [pEnc]
  | i + 1 => by
    have ih := pEnc_front sg a b c r i
    rw [pEnc, ih, pEnc, List.append_assoc]
    have : 3 * (i + 1) = 3 * i + 1 + 1 + 1 := by omega
    rw [this]
    simp only [List.drop_succ_cons]
theorem pEnc_nums (sg : List Int) : ∀ ks : List Int, pEnc sg ks ((ks.length + 2) / 3) = (pNums ks).map fun j => sg.getD j 0
  | a :: b :: c :: r => by
    have e : ((a :: b :: c :: r).length + 2) / 3 = (r.length + 2) / 3 + 1 := by simp only [List.length_cons]; omega
    rw [e, pEnc_front, pEnc_nums sg r, pNums, List.map_append, gCodes_nums]
  | [a, b] => by simp [pEnc, pNums, gCodes_nums]
  | [a] => by simp [pEnc, pNums, gCodes_nums]
  | [] => by simp [pEnc, pNums]
theorem gNums_lt (ks : List Int) : ∀ j ∈ gNums ks, j < 64 := by
  intro j hj
  obtain ⟨i, _, rfl⟩ := List.mem_map.mp hj
  omega
theorem pNums_lt : ∀ ks : List Int, ∀ j ∈ pNums ks, j < 64
  | a :: b :: c :: r => by
    intro j hj
    rw [pNums] at hj
    rcases List.mem_append.mp hj with h | h
    · exact gNums_lt _ _ h
    · exact pNums_lt r _ h
  | [a, b] => gNums_lt _
  | [a] => gNums_lt _
  | [] => fun _ h => nomatch h
theorem gNums_len (ks : List Int) : (gNums ks).length = ks.length + 1 := by simp [gNums]
theorem pNums_len : ∀ ks : List Int, (pNums ks).length = (8 * ks.length + 5) / 6
  | a :: b :: c :: r => by
    rw [pNums, List.length_append, gNums_len, pNums_len r]; simp only [List.length_cons, List.length_nil]; omega
  | [a, b] => by simp [pNums, gNums_len]
  | [a] => by simp [pNums, gNums_len]
  | [] => rfl

/-! one number cut into sixes -/
def sixes (x : Int) (n : Nat) : List Nat := (List.range n).map fun i => (x / 64 ^ (n - 1 - i) % 64).toNat
theorem pow64_pos (n : Nat) : (0 : Int) < 64 ^ n := Int.pow_pos (by decide)
theorem sixes_app {A B : Int} {k m : Nat} (h0 : 0 ≤ B) (h1 : B < 64 ^ m) : sixes (A * 64 ^ m + B) (k + m) = sixes A k ++ sixes B m := by
  unfold sixes
  rw [List.range_add, List.map_append, List.map_map]
  congr 1
  · refine List.map_congr_left fun i hi => ?_
    have hi := List.mem_range.mp hi
    have e : k + m - 1 - i = m + (k - 1 - i) := by omega
    have e2 : (A * 64 ^ m + B) / 64 ^ m = A := by
      rw [Int.add_comm, Int.add_mul_ediv_right _ _ (Int.ne_of_gt (pow64_pos m)), Int.ediv_eq_zero_of_lt h0 h1, Int.zero_add]
    rw [e, Int.pow_add, ← Int.ediv_ediv_of_nonneg (Int.le_of_lt (pow64_pos m)), e2]
  · refine List.map_congr_left fun i hi => ?_
    have hi := List.mem_range.mp hi
    show ((A * 64 ^ m + B) / 64 ^ (k + m - 1 - (k + i)) % 64).toNat = (B / 64 ^ (m - 1 - i) % 64).toNat
    have e : k + m - 1 - (k + i) = m - 1 - i := by omega
    have e2 : (64 : Int) ^ m = 64 ^ i * 64 * 64 ^ (m - 1 - i) := by
      rw [Int.mul_assoc, Int.mul_comm (64 : Int), ← Int.pow_succ, ← Int.pow_add]; congr 1; omega
    rw [e, e2, ← Int.mul_assoc, Int.add_comm, Int.add_mul_ediv_right _ _ (Int.ne_of_gt (pow64_pos _)), ← Int.mul_assoc, Int.add_mul_emod_self_right]
theorem gTot_acc (ks : List Int) : ∀ t : Int, ks.foldl (fun t c => 256 * t + c) t = t * 256 ^ ks.length + gTot ks := by
  unfold gTot
  induction ks with
  | nil => intro t; simp
  | cons c ks ih =>
    intro t
    rw [List.foldl_cons, List.foldl_cons, ih, ih (256 * 0 + c), List.length_cons, Int.pow_succ, Int.add_mul, Int.mul_zero, Int.zero_add, Int.add_assoc, Int.mul_comm 256 t, Int.mul_assoc, Int.mul_comm (256 : Int)]
theorem gTot_app (ks ls : List Int) : gTot (ks ++ ls) = gTot ks * 256 ^ ls.length + gTot ls := by
  rw [← gTot_acc]; unfold gTot; rw [List.foldl_append]
theorem gTot_lt : ∀ ks : List Int, (∀ k ∈ ks, 0 ≤ k ∧ k < 256) → 0 ≤ gTot ks ∧ gTot ks < 256 ^ ks.length
  | [] => fun _ => by simp [gTot]
  | c :: ks => fun h => by
    have ih := gTot_lt ks fun k hk => h k (.tail _ hk)
    have hc := h c (.head _)
    have e : gTot (c :: ks) = c * 256 ^ ks.length + gTot ks := by
      have := gTot_app [c] ks
      simpa [gTot] using this
    have hp : (0 : Int) < 256 ^ ks.length := Int.pow_pos (by decide)
    rw [e, List.length_cons, Int.pow_succ]
    have h1 : 0 ≤ c * 256 ^ ks.length := Int.mul_nonneg hc.1 (Int.le_of_lt hp)
    have h2 : c * 256 ^ ks.length ≤ 255 * 256 ^ ks.length := Int.mul_le_mul_of_nonneg_right (by omega) (Int.le_of_lt hp)
    omega
theorem pow2_64 (n : Nat) : (2 : Int) ^ (6 * n) = 64 ^ n := by rw [Int.pow_mul]; rfl
theorem pow2_256 (n : Nat) : (256 : Int) ^ n = 2 ^ (8 * n) := by rw [Int.pow_mul]; rfl
theorem gNums_sixes (ks : List Int) : gNums ks = sixes (gTot ks * 2 ^ (6 - 2 * ks.length)) (ks.length + 1) := by
  unfold gNums sixes
  refine List.map_congr_left fun i _ => ?_
  rw [pow2_64]; simp
theorem pNums_sixes : ∀ ks : List Int, (∀ k ∈ ks, 0 ≤ k ∧ k < 256) → pNums ks = sixes (gTot ks * 2 ^ (6 * ((8 * ks.length + 5) / 6) - 8 * ks.length)) ((8 * ks.length + 5) / 6)
  | a :: b :: c :: r => fun h => by
    have ih := pNums_sixes r fun k hk => h k (.tail _ (.tail _ (.tail _ hk)))
    have hr := gTot_lt r fun k hk => h k (.tail _ (.tail _ (.tail _ hk)))
    have hL : (a :: b :: c :: r).length = r.length + 3 := rfl
    have e1 : (8 * (r.length + 3) + 5) / 6 = 4 + (8 * r.length + 5) / 6 := by omega
    have e2 : 6 * (4 + (8 * r.length + 5) / 6) - 8 * (r.length + 3) = 6 * ((8 * r.length + 5) / 6) - 8 * r.length := by omega
    have e3 : gTot (a :: b :: c :: r) = gTot [a, b, c] * 256 ^ r.length + gTot r := gTot_app [a, b, c] r
    have e4 : (256 : Int) ^ r.length * 2 ^ (6 * ((8 * r.length + 5) / 6) - 8 * r.length) = 64 ^ ((8 * r.length + 5) / 6) := by
      rw [pow2_256, ← Int.pow_add, ← pow2_64]; congr 1; omega
    have hp : (0 : Int) < 2 ^ (6 * ((8 * r.length + 5) / 6) - 8 * r.length) := Int.pow_pos (by decide)
    rw [pNums, hL, e1, e2, e3, Int.add_mul, Int.mul_assoc, e4, sixes_app (Int.mul_nonneg hr.1 (Int.le_of_lt hp)) (by rw [← e4]; exact Int.mul_lt_mul_of_pos_right hr.2 hp), ih, gNums_sixes]
    simp
  | [a, b] => fun _ => by rw [pNums, gNums_sixes]; simp
  | [a] => fun _ => by rw [pNums, gNums_sixes]; simp
  | [] => fun _ => rfl
/-- the signs of a shift: its units as one number, cut into sixes -/
theorem pEnc_sixes (sg ks : List Int) (h : ∀ k ∈ ks, 0 ≤ k ∧ k < 256) :
    pEnc sg ks ((ks.length + 2) / 3) = (sixes (gTot ks * 2 ^ (6 * ((8 * ks.length + 5) / 6) - 8 * ks.length)) ((8 * ks.length + 5) / 6)).map fun j => sg.getD j 0 := by
  rw [pEnc_nums, pNums_sixes ks h]

/-! back -/
theorem nums_oct3 {a b c : Int} (ha : 0 ≤ a ∧ a < 256) (hb : 0 ≤ b ∧ b < 256) (hc : 0 ≤ c ∧ c < 256) : gOcts (nInts (gNums [a, b, c])) = [a, b, c] ∧ GoodGroup (nInts (gNums [a, b, c])) := by
  simp [gOcts, nInts, gNums, wTot, gTot, GoodGroup, List.range_succ]
  omega
theorem nums_oct2 {a b : Int} (ha : 0 ≤ a ∧ a < 256) (hb : 0 ≤ b ∧ b < 256) : gOcts (nInts (gNums [a, b])) = [a, b] ∧ GoodGroup (nInts (gNums [a, b])) := by
  simp [gOcts, nInts, gNums, wTot, gTot, GoodGroup, List.range_succ]
  omega
theorem nums_oct1 {a : Int} (ha : 0 ≤ a ∧ a < 256) : gOcts (nInts (gNums [a])) = [a] ∧ GoodGroup (nInts (gNums [a])) := by
  simp [gOcts, nInts, gNums, wTot, gTot, GoodGroup, List.range_succ]
  omega
theorem nInts_app (a b : List Nat) : nInts (a ++ b) = nInts a ++ nInts b := by simp [nInts]
theorem nInts_len (a : List Nat) : (nInts a).length = a.length := by simp [nInts]
theorem group_front {g r : List Int} (hg : g.length = 4) (i : Nat) : ((g ++ r).drop (4 * (i + 1))).take 4 = (r.drop (4 * i)).take 4 := by
  rw [List.drop_append, List.drop_of_length_le (by omega), List.nil_append]; congr 2; omega
theorem group_first {g r : List Int} (hg : g.length = 4) : ((g ++ r).drop (4 * 0)).take 4 = g := by
  rw [Nat.mul_zero, List.drop_zero, ← hg, List.take_left']; rfl
theorem pDecL_front {g r : List Int} (hg : g.length = 4) (i : Nat) : pDecL (g ++ r) (i + 1) = gOcts g :: pDecL r i := by
  unfold pDecL
  rw [List.range_succ_eq_map, List.map_cons, List.map_map, group_first hg]
  congr 1
  exact List.map_congr_left fun i _ => by show gOcts (((g ++ r).drop (4 * (i + 1))).take 4) = _; rw [group_front hg]
theorem pDec_nums : ∀ ks : List Int, (∀ k ∈ ks, 0 ≤ k ∧ k < 256) → (pDecL (nInts (pNums ks)) (((pNums ks).length + 3) / 4)).flatten = ks ∧ ∀ i, i < ((pNums ks).length + 3) / 4 → GoodGroup (((nInts (pNums ks)).drop (4 * i)).take 4)
  | a :: b :: c :: r => fun h => by
    have ih := pDec_nums r fun k hk => h k (.tail _ (.tail _ (.tail _ hk)))
    have h3 := nums_oct3 (h a (.head _)) (h b (.tail _ (.head _))) (h c (.tail _ (.tail _ (.head _))))
    have hl : (nInts (gNums [a, b, c])).length = 4 := by rw [nInts_len, gNums_len]; rfl
    have e : (((gNums [a, b, c] ++ pNums r).length) + 3) / 4 = ((pNums r).length + 3) / 4 + 1 := by
      rw [List.length_append, gNums_len]; simp only [List.length_cons, List.length_nil]; omega
    rw [pNums, e, nInts_app, pDecL_front hl, List.flatten_cons, h3.1, ih.1]
    refine ⟨rfl, fun i hi => ?_⟩
    rcases i with _ | i
    · rw [group_first hl]; exact h3.2
    · rw [group_front hl]; exact ih.2 i (by omega)
  | [a, b] => fun h => by
    have h2 := nums_oct2 (h a (.head _)) (h b (.tail _ (.head _)))
    have hl : (nInts (gNums [a, b])).length = 3 := by rw [nInts_len, gNums_len]; rfl
    have e : ((gNums [a, b]).length + 3) / 4 = 1 := by simp [gNums_len]
    have e2 : ((nInts (gNums [a, b])).drop (4 * 0)).take 4 = nInts (gNums [a, b]) := by rw [Nat.mul_zero, List.drop_zero, List.take_of_length_le (by omega)]
    rw [pNums, e]
    refine ⟨?_, fun i hi => ?_⟩
    · show ([gOcts (((nInts (gNums [a, b])).drop (4 * 0)).take 4)]).flatten = _
      rw [e2, h2.1]; rfl
    · obtain rfl : i = 0 := by omega
      rw [e2]; exact h2.2
  | [a] => fun h => by
    have h2 := nums_oct1 (h a (.head _))
    have hl : (nInts (gNums [a])).length = 2 := by rw [nInts_len, gNums_len]; rfl
    have e : ((gNums [a]).length + 3) / 4 = 1 := by simp [gNums_len]
    have e2 : ((nInts (gNums [a])).drop (4 * 0)).take 4 = nInts (gNums [a]) := by rw [Nat.mul_zero, List.drop_zero, List.take_of_length_le (by omega)]
    rw [pNums, e]
    refine ⟨?_, fun i hi => ?_⟩
    · show ([gOcts (((nInts (gNums [a])).drop (4 * 0)).take 4)]).flatten = _
      rw [e2, h2.1]; rfl
    · obtain rfl : i = 0 := by omega
      rw [e2]; exact h2.2
  | [] => fun _ => ⟨rfl, fun i hi => by simp [pNums] at hi⟩
theorem unitsOf_front (x y : Int) (r : List Int) (n : Nat) : unitsOf (x :: y :: r) (n + 1) = (x * 256 + y) :: unitsOf r n := by
  unfold unitsOf
  rw [List.range_succ_eq_map, List.map_cons, List.map_map]
  congr 1

/-- a code of a run -/
def RunCode (c : Nat) : Prop := plainN c = false ∧ c < 1114112 ∧ ¬ (55296 ≤ c ∧ c ≤ 57343)
theorem plainN_iff (c : Nat) : plainN c = true ↔ 32 ≤ c ∧ c ≤ 126 := by unfold plainN; simp; omega
theorem plainN_false (c : Nat) : plainN c = false ↔ ¬ (32 ≤ c ∧ c ≤ 126) := by rw [← plainN_iff]; simp
theorem u16_cons (c : Nat) (cs : List Nat) : u16 (c :: cs) = u16one (c : Int) ++ u16 cs := rfl
theorem u16one_even (c : Int) : (u16one c).length = 2 ∨ (u16one c).length = 4 := by unfold u16one; split <;> simp
theorem u16_even : ∀ cs : List Nat, (u16 cs).length % 2 = 0
  | [] => rfl
  | c :: cs => by
    have := u16_even cs; have := u16one_even (c : Int)
    rw [u16_cons, List.length_append]; omega
/-- the units of a run read as its codes -/
theorem dRun_u16 : ∀ (run : List Nat) (acc : List Nat), (∀ c ∈ run, RunCode c) → (unitsOf (u16 run) ((u16 run).length / 2)).foldlM dStep (acc, 0) = some (acc ++ run, 0)
  | [], acc, _ => by simp [u16, unitsOf]
  | c :: cs, acc, h => by
    have hc := h c (.head _)
    obtain ⟨h1, h2, h3⟩ := hc
    rw [plainN_false] at h1
    have ih := dRun_u16 cs (acc ++ [c]) fun x hx => h x (.tail _ hx)
    have fin : acc ++ [c] ++ cs = acc ++ c :: cs := by simp
    rw [u16_cons]
    by_cases hb : (65535 : Int) < c
    · have e : u16one (c : Int) = [hiU c / 256, hiU c % 256, loU c / 256, loU c % 256] := if_pos hb
      have e2 : (u16one (c : Int) ++ u16 cs).length / 2 = (u16 cs).length / 2 + 1 + 1 := by rw [e, List.length_append]; simp only [List.length_cons, List.length_nil]; omega
      rw [e2, e]
      simp only [List.cons_append, List.nil_append]
      rw [unitsOf_front, unitsOf_front]
      have e3 : hiU c / 256 * 256 + hiU c % 256 = hiU c := by omega
      have e4 : loU c / 256 * 256 + loU c % 256 = loU c := by omega
      have hh : 55296 ≤ hiU c ∧ hiU c ≤ 56319 := by unfold hiU; omega
      have hl : 56320 ≤ loU c ∧ loU c ≤ 57343 := by unfold loU; omega
      have hv : (65536 + (hiU c - 55296) * 1024 + loU c - 56320).toNat = c := by unfold hiU loU; omega
      have s1 : dStep (acc, 0) (hiU c) = some (acc, hiU c) := by
        unfold dStep; rw [if_neg (by simp), if_pos hh]
      have s2 : dStep (acc, hiU c) (loU c) = some (acc ++ [c], 0) := by
        unfold dStep; rw [if_pos (by show 0 < hiU c; omega), if_pos hl]; simp only [hv]
      rw [e3, e4, List.foldlM_cons, s1]
      show ((loU c :: unitsOf (u16 cs) ((u16 cs).length / 2)).foldlM dStep (acc, hiU c)) = _
      rw [List.foldlM_cons, s2]
      show ((unitsOf (u16 cs) ((u16 cs).length / 2)).foldlM dStep (acc ++ [c], 0)) = _
      rw [ih, fin]
    · have e : u16one (c : Int) = [(c : Int) / 256, (c : Int) % 256] := if_neg hb
      have e2 : (u16one (c : Int) ++ u16 cs).length / 2 = (u16 cs).length / 2 + 1 := by rw [e, List.length_append]; simp only [List.length_cons, List.length_nil]; omega
      rw [e2, e]
      simp only [List.cons_append, List.nil_append]
      rw [unitsOf_front]
      have e3 : (c : Int) / 256 * 256 + (c : Int) % 256 = c := by omega
      have s1 : dStep (acc, 0) (c : Int) = some (acc ++ [c], 0) := by
        unfold dStep; rw [if_neg (by simp), if_neg (by omega), if_neg (by omega), if_neg (by omega)]; simp
      rw [e3, List.foldlM_cons, s1]
      show ((unitsOf (u16 cs) ((u16 cs).length / 2)).foldlM dStep (acc ++ [c], 0)) = _
      rw [ih, fin]

/-! the octets of a text -/
theorem enc_nil : enc [] = [] := by rw [enc]
theorem enc_cons_plain {c : Nat} {cs : List Nat} (h : plainN c = true) : enc (c :: cs) = (if c = 38 then [38, 45] else [(c : Int)]) ++ enc cs := by
  rw [enc, if_pos h]
theorem takeWhile_app {p : Nat → Bool} : ∀ {run rest : List Nat}, (∀ c ∈ run, p c = true) → (∀ c ∈ rest.head?, p c = false) → (run ++ rest).takeWhile p = run
  | [], [], _, _ => rfl
  | [], c :: r, _, h => by
    have := h c rfl
    simp [this]
  | c :: run, rest, h, h2 => by
    rw [List.cons_append, List.takeWhile_cons, h c (.head _)]
    simp only [if_true]
    rw [takeWhile_app (fun x hx => h x (.tail _ hx)) h2]
theorem enc_app_run {run rest : List Nat} (hne : run ≠ []) (h : ∀ c ∈ run, plainN c = false) (h2 : ∀ c ∈ rest.head?, plainN c = true) : enc (run ++ rest) = encRun run ++ enc rest := by
  have hT : (run ++ rest).takeWhile (fun c => !plainN c) = run := takeWhile_app (fun c hc => by simp [h c hc]) (fun c hc => by simp [h2 c hc])
  have hE : runEnd (run ++ rest) 0 = run.length := by unfold runEnd; rw [List.drop_zero, hT, Nat.zero_add]
  match run, hne with
  | c :: run, _ =>
    rw [List.cons_append] at hT hE ⊢
    rw [enc, if_neg (by simp [h c (.head _)]), hT, hE]
    congr 2
    rw [← List.cons_append, List.drop_left']
    rfl
theorem split_run : ∀ cs : List Nat, ∃ run rest, cs = run ++ rest ∧ (∀ c ∈ run, plainN c = false) ∧ ∀ c ∈ rest.head?, plainN c = true
  | [] => ⟨[], [], rfl, (fun _ h => nomatch h), fun _ h => nomatch h⟩
  | c :: cs => by
    cases hc : plainN c with
    | true => exact ⟨[], c :: cs, rfl, (fun _ h => nomatch h), fun x hx => by cases hx; exact hc⟩
    | false =>
      obtain ⟨run, rest, rfl, h1, h2⟩ := split_run cs
      refine ⟨c :: run, rest, rfl, fun x hx => ?_, h2⟩
      rcases List.mem_cons.mp hx with rfl | hx
      · exact hc
      · exact h1 x hx
theorem sgn_mem {j : Nat} (h : j < 64) : sgn.contains (sgn.getD j 0) = true := by
  have : ∀ j, j < 64 → sgn.contains (sgn.getD j 0) = true := by decide
  exact this j h
theorem sgn_range : ∀ x ∈ sgn, 32 ≤ x ∧ x ≤ 126 ∧ x ≠ 38 ∧ x ≠ 45 := by decide
theorem sgn_getD_range {j : Nat} (h : j < 64) : 32 ≤ sgn.getD j 0 ∧ sgn.getD j 0 ≤ 126 ∧ sgn.getD j 0 ≠ 38 ∧ sgn.getD j 0 ≠ 45 :=
  sgn_range _ (List.contains_iff_mem.mp (sgn_mem h))
theorem takeWhile_appI {p : Int → Bool} : ∀ {run rest : List Int}, (∀ c ∈ run, p c = true) → (∀ c ∈ rest.head?, p c = false) → (run ++ rest).takeWhile p = run
  | [], [], _, _ => rfl
  | [], c :: r, _, h => by
    have := h c rfl
    simp [this]
  | c :: run, rest, h, h2 => by
    rw [List.cons_append, List.takeWhile_cons, h c (.head _)]
    simp only [if_true]
    rw [takeWhile_appI (fun x hx => h x (.tail _ hx)) h2]
theorem sEnd_at {pre sg post : List Int} {x : Int} {b : Nat} (hb : b = pre.length) (h : ∀ c ∈ sg, sgn.contains c = true) (hx : sgn.contains x = false) : sEnd (pre ++ (sg ++ x :: post)) b = b + sg.length := by
  subst hb
  unfold sEnd
  rw [List.drop_left', takeWhile_appI h (fun c hc => by cases hc; exact hx)]
  rfl
theorem pEnc_sgn (ks : List Int) : ∀ c ∈ pEnc sgn ks ((ks.length + 2) / 3), sgn.contains c = true := by
  rw [pEnc_nums]
  intro c hc
  obtain ⟨j, hj, rfl⟩ := List.mem_map.mp hc
  exact sgn_mem (pNums_lt _ _ hj)
theorem pEnc_range (ks : List Int) : ∀ c ∈ pEnc sgn ks ((ks.length + 2) / 3), 32 ≤ c ∧ c ≤ 126 := fun c hc =>
  have := sgn_range c (List.contains_iff_mem.mp (pEnc_sgn ks c hc)); ⟨this.1, this.2.1⟩
theorem encRun_range (run : List Nat) : ∀ c ∈ encRun run, 32 ≤ c ∧ c ≤ 126 := by
  intro k hk
  simp only [encRun, List.mem_append, List.mem_singleton] at hk
  rcases hk with (rfl | hk) | rfl
  · omega
  · exact pEnc_range _ k hk
  · omega
theorem split_len {run rest : List Nat} (hne : run ≠ []) : rest.length < (run ++ rest).length := by
  have : 1 ≤ run.length := List.length_pos_iff.mpr hne
  rw [List.length_append]; omega
/-- the octets are printable -/
theorem enc_range : ∀ (k : Nat) (cs : List Nat), cs.length ≤ k → ∀ c ∈ enc cs, 32 ≤ c ∧ c ≤ 126
  | 0, cs, h => by
    have : cs = [] := List.length_eq_zero_iff.mp (by omega)
    subst this; rw [enc_nil]; exact fun _ h => nomatch h
  | k + 1, cs, h => by
    obtain ⟨run, rest, e, h1, h2⟩ := split_run cs
    by_cases hne : run = []
    · subst hne
      rw [List.nil_append] at e
      subst e
      match cs, h, h2 with
      | [], _, _ => rw [enc_nil]; exact fun _ h => nomatch h
      | c :: cs, h, h2 =>
        have hp := h2 c rfl
        rw [enc_cons_plain hp]
        rw [plainN_iff] at hp
        intro x hx
        rcases List.mem_append.mp hx with hx | hx
        · split at hx <;> simp at hx <;> omega
        · exact enc_range k cs (by simp at h; omega) x hx
    · subst e
      have := split_len (rest := rest) hne
      rw [enc_app_run hne h1 h2]
      intro x hx
      rcases List.mem_append.mp hx with hx | hx
      · exact encRun_range run x hx
      · exact enc_range k rest (by omega) x hx
theorem getElem?_at {α : Type} (pre post : List α) (x : α) {i : Nat} (hi : i = pre.length) : (pre ++ x :: post)[i]? = some x := by subst hi; simp
/-- a shift of a run reads as the run -/
theorem shiftOk_run {pre post : List Int} {run : List Nat} {b e : Nat} (h : ∀ c ∈ run, RunCode c) (hb : b = pre.length) (he : e = b + (pEnc sgn (u16 run) (((u16 run).length + 2) / 3)).length) :
    ShiftOk (pre ++ (pEnc sgn (u16 run) (((u16 run).length + 2) / 3) ++ post)) b e run := by
  have hin : ∀ k ∈ u16 run, 0 ≤ k ∧ k < 256 := u16_in fun c hc => (h c hc).2.1
  have hd := pDec_nums (u16 run) hin
  refine ⟨pNums (u16 run), (u16 run).length / 2, ?_, pNums_lt _, hd.2, ?_, ?_⟩
  · subst hb
    rw [List.drop_left', he, Nat.add_sub_cancel_left, List.take_left', pEnc_nums]
    · rfl
    · rfl
  · rw [hd.1]; have := u16_even run; omega
  · rw [hd.1]
    exact dRun_u16 run [] h
/-- the octets of a text read as the text -/
theorem enc_steps : ∀ (k : Nat) (cs : List Nat) (pre : List Int) (sh : Int), cs.length ≤ k → (∀ c ∈ cs, c < 1114112 ∧ ¬ (55296 ≤ c ∧ c ≤ 57343)) → sh ≤ pre.length → (∀ c ∈ cs.head?, plainN c = false → sh ≠ pre.length) →
    Steps (pre ++ enc cs) pre.length sh cs
  | 0, cs, pre, sh, h, _, _, _ => by
    have : cs = [] := List.length_eq_zero_iff.mp (by omega)
    subst this; rw [enc_nil]; exact .done (by simp)
  | k + 1, cs, pre, sh, h, hv, hs, hh => by
    obtain ⟨run, rest, e, h1, h2⟩ := split_run cs
    by_cases hne : run = []
    · subst hne
      rw [List.nil_append] at e
      subst e
      match cs, h, hv, hh, h2 with
      | [], _, _, _, _ => rw [enc_nil]; exact .done (by simp)
      | c :: cs, h, hv, hh, h2 =>
        have hp := h2 c rfl
        have hlen : cs.length ≤ k := by simp at h; omega
        have hv' : ∀ x ∈ cs, x < 1114112 ∧ ¬ (55296 ≤ x ∧ x ≤ 57343) := fun x hx => hv x (.tail _ hx)
        rw [enc_cons_plain hp]
        rw [plainN_iff] at hp
        by_cases h38 : c = 38
        · subst h38
          rw [if_pos rfl]
          have ih := enc_steps k cs (pre ++ [38, 45]) sh hlen hv' (by simp; omega) (fun x _ _ => by simp; omega)
          have e1 : pre ++ ([38, 45] ++ enc cs) = pre ++ [38, 45] ++ enc cs := by simp
          have e2 : (pre ++ [(38 : Int), 45]).length = pre.length + 2 := by simp
          rw [e2] at ih
          rw [e1]
          refine .amp ?_ ?_ ?_ ih
          · rw [List.append_assoc]; exact getElem?_at _ _ _ rfl
          · have := sEnd_at (pre := pre ++ [38]) (sg := []) (post := enc cs) (x := 45) (b := pre.length + 1) (by simp) (fun _ h => nomatch h) (by decide)
            simpa using this
          · have := getElem?_at (pre ++ [38]) (enc cs) (45 : Int) (i := pre.length + 1) (by simp)
            simpa using this
        · rw [if_neg h38]
          have ih := enc_steps k cs (pre ++ [(c : Int)]) sh hlen hv' (by simp; omega) (fun x _ _ => by simp; omega)
          have e1 : pre ++ ([(c : Int)] ++ enc cs) = pre ++ [(c : Int)] ++ enc cs := by simp
          have e2 : (pre ++ [(c : Int)]).length = pre.length + 1 := by simp
          rw [e2] at ih
          rw [e1]
          have := Steps.plain (c := (c : Int)) (by rw [List.append_assoc]; exact getElem?_at _ _ _ rfl) (by omega) (by omega) (by omega) ih
          simpa using this
    · subst e
      have hl := split_len (rest := rest) hne
      have hh' : sh ≠ pre.length := by
        match run, hne with
        | c :: run, _ => exact hh c rfl (h1 c (.head _))
      have hr : ∀ c ∈ run, RunCode c := fun c hc => ⟨h1 c hc, hv c (List.mem_append_left _ hc)⟩
      rw [enc_app_run hne h1 h2]
      have ih := enc_steps k rest (pre ++ encRun run) ((pre ++ encRun run).length : Nat) (by omega) (fun x hx => hv x (List.mem_append_right _ hx)) (Int.le_refl _) (fun x hx hp => by rw [h2 x hx] at hp; cases hp)
      generalize hP : pEnc sgn (u16 run) (((u16 run).length + 2) / 3) = P at *
      have hPs : ∀ c ∈ P, sgn.contains c = true := hP ▸ pEnc_sgn _
      have hE : encRun run = 38 :: (P ++ [45]) := by unfold encRun; rw [hP]; simp
      have hP1 : 1 ≤ P.length := by
        rw [← hP, pEnc_nums, List.length_map, pNums_len]
        have : 2 ≤ (u16 run).length := by
          match run, hne with
          | c :: run, _ => rw [u16_cons, List.length_append]; have := u16one_even (c : Int); omega
        omega
      have e0 : (pre ++ encRun run).length = pre.length + 1 + P.length + 1 := by rw [hE]; simp; omega
      have e1 : pre ++ encRun run ++ enc rest = (pre ++ [38]) ++ (P ++ 45 :: enc rest) := by rw [hE]; simp
      have hsE : sEnd (pre ++ encRun run ++ enc rest) (pre.length + 1) = pre.length + 1 + P.length := by
        rw [e1]; exact sEnd_at (by simp) hPs (by decide)
      have e2 : pre ++ (encRun run ++ enc rest) = pre ++ encRun run ++ enc rest := by simp
      rw [e2]
      refine .shift ?_ ?_ ?_ (Ne.symm hh') ?_ ?_
      · rw [e1, List.append_assoc]; exact getElem?_at _ _ _ rfl
      · rw [hsE]; omega
      · rw [hsE, e1, ← List.append_assoc]; exact getElem?_at _ _ _ (by simp; omega)
      · rw [hsE, e1]
        subst hP
        exact shiftOk_run hr (by simp) rfl
      · rw [hsE]; rw [e0] at ih; exact ih

section
variable {prog p : Program} {lz : List Str} {w : World} {mean : ExcName → Option Value} {mg mb : Str → Option Value} {dp un : Nat} {gd : Option (List Code)} {base : Heap} {outer : List Env} {n : Nat}
  {Q E : Value → Shared → Prop} {s : Shared}
def menuL : List Int := [38, 45, 43, 44, 47, 32, 126, 97, 90, 233, 8364, 8232, 65535, 65536, 1114111, 128512, 127, 0, 10, 55295, 57344, 31, 128, 65, 945, 39, 37]
def lawCode (c : Int) : Int := if c % 32 < 27 then menuL.getD (c % 32).toNat 0 else if 55296 ≤ c / 32 % 1114112 ∧ c / 32 % 1114112 ≤ 57343 then 946 else c / 32 % 1114112

theorem ret_i {f x : Int} {t : Tok} {h' : Heap} {tk' : Nat} (hret : ∀ t h' tk', s.heap.StaysIn h' → Q (.int f t) { s with heap := h', toks := tk' }) (e : x = f) (k : s.heap.StaysIn h') : Q (.int x t) { s with heap := h', toks := tk' } := e ▸ hret t _ _ k
set_option maxHeartbeats 2000000 in
theorem ct_lcode {c : Int} {t : Tok} (S : Sit p lz w mean mg mb dp un gd base outer (n + 1) s.heap)
  (hret : ∀ t h' tk', s.heap.StaysIn h' → Q (.int (lawCode c) t) { s with heap := h', toks := tk' }) :
  wpAny (model prog w) (ar dp un gd outer) (call (.ref 172) [.int c t]) Q E s := by
  k_dflt refine' enterS (binds := [(Str.ofString "cell", .int c t)]) S ?k6 ?k7 ?k9 ?kB ?c2 ?c3 ?c4 ?c5 ?_
  (k_dflt ((case k6 => k_is); (case k7 => k_is); (case k9 => exact BindsTo.of_eq rfl); (case c5 => decide); (case kB => exact locs rfl); (case c2 => exact rfl); (case c3 => exact rfl); (case c4 => exact rfl)); k_whole; intro L1 h1 F1 N1 B1 X1 T1 hroom hunits; (try dsimp only [List.reverse_cons, List.reverse_nil, List.nil_append, List.cons_append]); (try k_fold))
  k_with_none
  k_steps
  all_goals refine' ret_i (s := s) hret ?_ (Fr.keep (by assumption))
  all_goals (
    have e1 : c.fmod 32 = c % 32 := Int.fmod_eq_emod_of_nonneg _ (by omega)
    have e2 : c.fdiv 32 = c / 32 := Int.fdiv_eq_ediv_of_nonneg _ (by omega)
    have e3 : (c / 32).fmod 1114112 = c / 32 % 1114112 := Int.fmod_eq_emod_of_nonneg _ (by omega)
    simp only [e1, e2, e3] at *
    unfold lawCode
    first
      | (rw [if_pos (by omega)]; rfl)
      | (rw [if_neg (by omega), if_pos (by omega)]; done)
      | (rw [if_neg (by omega), if_neg (by omega)]; done))
end

local macro_rules | `(tactic| walk_at "pyIter ref") => `(tactic| (k_here; (with_reducible show wpAny _ _ (pyIter _) _ _ _); refine halt ?_))
local macro_rules | `(tactic| walk_at "exec For Name Name cons nil") => `(tactic| (k_here; (rename Fr _ _ _ _ => lF'); (with_unfolding_all refine' For_invVF lF' ?k1 ?k2 ?_; (case k1 => exact rfl); (case k2 => exact rfl); k_whole)))
local macro_rules | `(tactic| walk_at "exec For Name BinOp cons nil") => `(tactic| (k_here; (rename Fr _ _ _ _ => lF'); (with_unfolding_all refine' For_invVF lF' ?k1 ?k2 ?_; (case k1 => exact rfl); (case k2 => exact rfl); k_whole)))

section
variable {prog p : Program} {lz : List Str} {w : World} {mean : ExcName → Option Value} {mg mb : Str → Option Value} {dp un : Nat} {gd : Option (List Code)} {base : Heap} {outer : List Env} {n : Nat}
  {Q E : Value → Shared → Prop} {s : Shared}
def chars (os : List Int) : PySem.Str := ⟨(os.map Int.toNat).toArray⟩
def u16I (cs : List Int) : List Int := cs.flatMap u16one
theorem u16I_map (run : List Nat) : u16I (run.map fun c : Nat => (c : Int)) = u16 run := by
  unfold u16I u16; rw [List.flatMap_map]
theorem u16I_snoc (pre : List Int) (x : Int) : u16I (pre ++ [x]) = u16I pre ++ u16one x := by simp [u16I]
theorem gTot_two {pre : List Int} {x : Int} (h : 65535 < x) : gTot (u16I (pre ++ [x])) = gTot (u16I pre) * 4294967296 + (55296 + (x - 65536) / 1024) * 65536 + 56320 + x % 1024 := by
  rw [u16I_snoc, gTot_app]
  unfold u16one
  rw [if_pos h]
  simp only [gTot, List.foldl_cons, List.foldl_nil, List.length_cons, List.length_nil, Nat.zero_add, Nat.reduceAdd, Int.reducePow, hiU, loU]
  omega
theorem gTot_one {pre : List Int} {x : Int} (h : ¬ 65535 < x) : gTot (u16I (pre ++ [x])) = gTot (u16I pre) * 65536 + x := by
  rw [u16I_snoc, gTot_app]
  unfold u16one
  rw [if_neg h]
  simp only [gTot, List.foldl_cons, List.foldl_nil, List.length_cons, List.length_nil, Nat.zero_add, Nat.reduceAdd, Int.reducePow]
  omega
theorem u16I_two {pre : List Int} {x : Int} (h : 65535 < x) : (u16I (pre ++ [x])).length = (u16I pre).length + 4 := by
  rw [u16I_snoc, List.length_append]; unfold u16one; rw [if_pos h]; rfl
theorem u16I_one {pre : List Int} {x : Int} (h : ¬ 65535 < x) : (u16I (pre ++ [x])).length = (u16I pre).length + 2 := by
  rw [u16I_snoc, List.length_append]; unfold u16one; rw [if_neg h]; rfl
theorem log64 {k : Nat} (h : k ≤ 1400) : ((64 : Int) ^ k).natAbs.log2 < 9000 := by
  have e : ((64 : Int) ^ k).natAbs = 2 ^ (6 * k) := by rw [Int.natAbs_pow, Nat.pow_mul]; rfl
  rw [e]
  exact (Nat.log2_lt (Nat.ne_of_gt (Nat.pow_pos (by omega)))).mpr (Nat.pow_lt_pow_right (by omega) (by omega))
theorem item_sign {k : Int} (h0 : 0 ≤ k) (h1 : k < 64) : Txt.item (Str.ofString "ABCDEFGHIJKLMNOPQRSTUVWXYZabcdefghijklmnopqrstuvwxyz0123456789+,") k = ⟨#[(sgn.getD k.toNat 0).toNat]⟩ := by
  have key : ∀ j : Nat, j < 64 → Txt.item (Str.ofString "ABCDEFGHIJKLMNOPQRSTUVWXYZabcdefghijklmnopqrstuvwxyz0123456789+,") (j : Int) = ⟨#[(sgn.getD j 0).toNat]⟩ := by decide +kernel
  have := key k.toNat (by omega)
  rw [Int.toNat_of_nonneg h0] at this
  exact this
theorem strsAre_of {f : Nat → PySem.Str} : ∀ {n : Nat} {ys : List Value}, ys.length = n → (∀ (i : Nat) (y : Value), ys[i]? = some y → ∃ t, y = Value.str (f i) t) → StrsAre ys ((List.range n).map f) := by
  intro n
  induction n with
  | zero => intro ys hl _; have : ys = [] := List.eq_nil_of_length_eq_zero hl; subst this; exact .nil
  | succ n ih =>
    intro ys hl hy
    have hne : ys ≠ [] := by intro e; rw [e] at hl; simp at hl
    obtain ⟨zs, z, e⟩ : ∃ zs z, ys = zs ++ [z] := ⟨_, _, (List.dropLast_concat_getLast hne).symm⟩
    subst e
    have hd : zs.length = n := by simpa using hl
    obtain ⟨t, ht⟩ := hy n z (by simp [← hd])
    rw [List.range_succ, List.map_append, ht]
    refine StrsAre.append' (ih hd fun i y h => hy i y ?_) (.cons _ _ .nil)
    have hi : i < zs.length := by
      rcases Nat.lt_or_ge i zs.length with h1 | h1
      · exact h1
      · rw [List.getElem?_eq_none h1] at h; cases h
    rw [List.getElem?_append_left hi]; exact h
local macro_rules | `(tactic| walk_at "binaryOp FloorDiv int int") => `(tactic| (k_here; k_dflt (refine' floordiv_int ?h ?_ (Or.inl (PyProof.noPylong_of_log2 ?p)); (case h => assumption); (case p => assumption))))
abbrev LC := Obj × Int × Tok × Int × Tok
theorem lsh_end {h₀ : Heap} {L a1 a2 : Addr} {o1 o : Obj} {x : Str} {m₀ m' : Str → Option Value} {pre : List Int} {own : List (Addr × Obj)} {s₁ : Shared} {h' : Heap} {tk : Nat} {num bits : Int} {tn tb : Tok}
    (F : Fr h₀ L h' m') (N : News h₀ L h' ((a1, o1) :: (a2, o) :: own)) (hd : o.data = .cell (some (.int num tn))) (hk : m' (Str.ofString "bits") = some (.int bits tb)) (hr : ∀ z, z ≠ x → z ≠ Str.ofString "bits" → m' z = m₀ z)
    (h1 : num = gTot (u16I pre)) (h2 : bits = 8 * ((u16I pre).length : Int)) :
    InvEndN h₀ L (KstS (fun c : LC => [(a1, o1), (a2, c.1)]) (fun c => [(Str.ofString "bits", .int c.2.2.2.1 c.2.2.2.2)]) (fun c => c.1.data = .cell (some (.int c.2.1 c.2.2.1))) x [] m₀ (fun pre c => c.2.1 = gTot (u16I pre) ∧ c.2.2.2.1 = 8 * ((u16I pre).length : Int)) pre) own [a1, a2] s₁ { s₁ with heap := h', toks := tk } :=
  kst_end (o, num, tn, bits, tb) F N (fun p hp => by
      rcases List.mem_cons.mp hp with rfl | hp
      · exact .head _
      · rw [List.mem_singleton.mp hp]; exact .tail _ (.head _)) (fun p hp => .tail _ (.tail _ hp)) rfl hd (fun p hp => by cases List.mem_singleton.mp hp; exact hk) (fun z hz1 hz2 _ => hr z hz1 (hz2 _ (.head _))) ⟨h1, h2⟩
set_option maxHeartbeats 2000000 in
theorem ct_lshift {l : Addr} {vs : List Value} {run : List Nat} (S : Sit p lz w mean mg mb dp un gd base outer (n + 1) s.heap)
  (hl : s.heap.IsList l vs.toArray) (hi : IntsAre vs (run.map fun c : Nat => (c : Int))) (hk : run.length ≤ 200) (hv : ∀ c ∈ run, c < 1114112)
  (hret : ∀ t h' tk', s.heap.StaysIn h' → Q (.str (chars (encRun run)) t) { s with heap := h', toks := tk' }) :
  wpAny (model prog w) (ar dp un gd outer) (call (.ref 177) [.ref l]) Q E s := by
  k_dflt refine' enterC (binds := [(Str.ofString "codes", .ref l)]) S ?k6 ?k7 ?k9 ?kB ?kD ?c2 ?c3 ?c4 ?_
  walk_at "enter_c"
  k_with_none
  k_steps
  (rename Fr _ _ _ _ => F5); (rename News _ _ _ _ => N5)
  rename_i o5 d5 _
  refine' unhalt (kst_list (σ := Obj × Int × Tok × Int × Tok) (fun c => [(L1 + 1 + 1, o1), (L1 + 1, c.1)]) (fun c => [(Str.ofString "bits", .int c.2.2.2.1 c.2.2.2.2)]) (fun c => c.1.data = .cell (some (.int c.2.1 c.2.2.1))) [] (fun pre c => c.2.1 = gTot (u16I pre) ∧ c.2.2.2.1 = 8 * ((u16I pre).length : Int)) ⟨o5, 0, _, 0, ?tb0⟩ rfl hl hi F5 (fun p hp => N5 p (.tail _ hp)) d5 ?hk0 ⟨rfl, rfl⟩ ?_ ?_)
  case tb0 => exact tk1 + 1
  case hk0 => intro p hp; cases List.mem_singleton.mp hp; rfl
  · rintro ⟨o3, num, tn, bits, tb⟩ pre post x t u h tk own e hmem hoff hf ⟨hp1, hp2⟩ F N
    dsimp only at hf hp1 hp2 F N
    have hx : 0 ≤ x ∧ x < 1114112 := by
      obtain ⟨c, hc, rfl⟩ := List.mem_map.mp hmem
      have := hv c hc; omega
    clear F5 N5 d5
    k_steps
    · rename_i h1 _ o6 d6 _ F6 N6
      have e1 : (x - 65536).fdiv 1024 = (x - 65536) / 1024 := Int.fdiv_eq_ediv_of_nonneg _ (by omega)
      have e2 : x.fmod 1024 = x % 1024 := Int.fmod_eq_emod_of_nonneg _ (by omega)
      have e3 : (2 : Int) ^ Int.toNat 32 = 4294967296 := by simp only [Int.reduceToNat, Int.reducePow]
      have e4 : num * 2 ^ Int.toNat 32 + (55296 + (x - 65536).fdiv 1024) * 65536 + 56320 + x.fmod 1024 = gTot (u16I (pre ++ [x])) := by rw [gTot_two h1, ← hp1, e1, e2, e3]
      have e5 : bits + 32 = 8 * ((u16I (pre ++ [x])).length : Int) := by rw [u16I_two h1]; omega
      exact lsh_end F6 N6 d6 (by with_unfolding_all rfl) (by (intro z hz1 hz2; simp [hz1, hz2, kstB])) e4 e5
    · rename_i h1 _ o6 d6 _ F6 N6
      have e4 : num * 65536 + x = gTot (u16I (pre ++ [x])) := by rw [gTot_one h1, ← hp1]
      have e5 : bits + 16 = 8 * ((u16I (pre ++ [x])).length : Int) := by rw [u16I_one h1]; omega
      exact lsh_end F6 N6 d6 (by with_unfolding_all rfl) (by (intro z hz1 hz2; simp [hz1, hz2, kstB])) e4 e5
  · rintro ⟨o3, num, tn, bits, tb⟩ u h tk hf ⟨hp1, hp2⟩ F N
    dsimp only at hf hp1 hp2 F N
    clear F5 N5 d5
    have hul := u16_len run
    rw [u16I_map] at hp1 hp2
    have hb5 : (bits + 5).fdiv 6 = (bits + 5) / 6 := Int.fdiv_eq_ediv_of_nonneg _ (by omega)
    have hc : 0 ≤ (bits + 5).fdiv 6 ∧ (bits + 5).fdiv 6 ≤ 1100 := by omega
    have he : (6 * (bits + 5).fdiv 6 - bits).toNat ≤ 5 := by omega
    have hpw : -(2 ^ 64) < (2 : Int) ^ (6 * (bits + 5).fdiv 6 - bits).toNat ∧ (2 : Int) ^ (6 * (bits + 5).fdiv 6 - bits).toNat < 2 ^ 64 := by
      have h5 : ∀ k : Nat, k ≤ 5 → 0 < (2 : Int) ^ k ∧ (2 : Int) ^ k ≤ 32 := by decide
      have := h5 _ he
      generalize (2 : Int) ^ (6 * (bits + 5).fdiv 6 - bits).toNat = w at *
      omega
    have hcn : (bits + 5).fdiv 6 = (((8 * (u16 run).length + 5) / 6 : Nat) : Int) := by omega
    k_steps
    (rename IsRange _ _ _ _ _ _ _ _ => hr4); (rename Fr _ _ _ _ => F4); (rename News _ _ _ _ => N4)
    refine comp_range (n := (8 * (u16 run).length + 5) / 6) rfl F4 N4 hr4 (small_ab (by omega) (by omega) (by omega)) (by rw [rangeSize_ab (by omega)]; omega) (by rw [sizeLine_eq]; omega) ?_
    intro g
    generalize hcq : (8 * (u16 run).length + 5) / 6 = cnt at hcn
    refine comp_each (fun i y => ∃ t, y = .str ⟨#[(sgn.getD (num * 2 ^ (6 * (bits + 5).fdiv 6 - bits).toNat / 64 ^ (cnt - 1 - i) % 64).toNat 0).toNat]⟩ t) ?_ trivial ?_
    · rintro i v I oI C oC D m₂ ys h tk E' hi ⟨_, t, rfl⟩ hC hx F5 N5 off ne
      have hpos : (0 : Int) < 64 ^ ((bits + 5).fdiv 6 - 1 - (0 + (i : Int) * 1)).toNat := pow64_pos _
      have hne0 : (64 : Int) ^ ((bits + 5).fdiv 6 - 1 - (0 + (i : Int) * 1)).toNat ≠ 0 := Int.ne_of_gt hpos
      have hlg : ((64 : Int) ^ ((bits + 5).fdiv 6 - 1 - (0 + (i : Int) * 1)).toNat).natAbs.log2 < 9000 := log64 (by omega)
      k_steps
      refine LCg.CompEnd.intro F5 N5 _ (fun _ hp => hp) off trivial ⟨rfl, _, congrArg (fun z => Value.str z _) ?_⟩
      have e1 : ((bits + 5).fdiv 6 - 1 - (0 + (i : Int) * 1)).toNat = cnt - 1 - i := by omega
      rw [e1, Int.fdiv_eq_ediv_of_nonneg _ (Int.le_of_lt (pow64_pos _)), Int.fmod_eq_emod_of_nonneg _ (by omega)]
      exact item_sign (by omega) (by omega)
    · intro ys hl hy
      k_steps
      (rename News _ _ _ _ => N9)
      have hS := strsAre_of hl hy
      have hSc := hS.carried
      refine KT.join_1 (ys := ys) (l := (List.range cnt).map fun i => (sgn.getD (num * 2 ^ (6 * (bits + 5).fdiv 6 - bits).toNat / 64 ^ (cnt - 1 - i) % 64).toNat 0).toNat) (g := fun d => (⟨#[d]⟩ : PySem.Str)) ⟨_, (N9 _ (.head _)).1, rfl, _, rfl⟩ (by rw [List.map_map] at hSc ⊢; exact hSc) (fun _ _ => rfl) (by simp; omega) fun t' k' _ => ?_
      rw [join_singles]
      have e1 : (6 * (bits + 5).fdiv 6 - bits).toNat = 6 * cnt - 8 * (u16 run).length := by omega
      have e2 : (List.range cnt).map (fun i => (sgn.getD (num * 2 ^ (6 * (bits + 5).fdiv 6 - bits).toNat / 64 ^ (cnt - 1 - i) % 64).toNat 0).toNat) = (pEnc sgn (u16 run) (((u16 run).length + 2) / 3)).map Int.toNat := by
        rw [e1, hp1, pEnc_sixes sgn (u16 run) (u16_in hv), hcq]
        unfold sixes
        rw [List.map_map, List.map_map]
        rfl
      rw [e2]
      have hel : (pEnc sgn (u16 run) (((u16 run).length + 2) / 3)).length ≤ 4000 := by
        have := pEnc_len sgn (u16 run) (((u16 run).length + 2) / 3); omega
      have hrun : chars (encRun run) = ⟨#[38] ++ ((pEnc sgn (u16 run) (((u16 run).length + 2) / 3)).map Int.toNat).toArray ++ #[45]⟩ := by
        unfold chars encRun; simp
      have hsl : ((pEnc sgn (u16 run) (((u16 run).length + 2) / 3)).map Int.toNat).length ≤ 4000 := by simpa using hel
      rw [hrun] at hret
      generalize (pEnc sgn (u16 run) (((u16 run).length + 2) / 3)).map Int.toNat = ds at hret hsl
      have hstl : ({ cps := ds.toArray } : PySem.Str).length ≤ 4000 := by simpa [Str.length] using hsl
      have hfin : Str.ofString "&" ++ ({ cps := ds.toArray } : PySem.Str) ++ Str.ofString "-" = ⟨#[38] ++ ds.toArray ++ #[45]⟩ := by
        have h1 : (Str.ofString "&").cps = #[38] := by decide +kernel
        have h2 : (Str.ofString "-").cps = #[45] := by decide +kernel
        show (⟨(Str.ofString "&").cps ++ ds.toArray ++ (Str.ofString "-").cps⟩ : PySem.Str) = _
        rw [h1, h2]
      rw [← hfin] at hret
      k_steps
      exact hret _ _ _ (Fr.keep (by assumption))
end

section
variable {prog : Program} {w : World} {A : Around} {E : Value → Shared → Prop} {s : Shared} {h₀ : Heap} {L : Addr} {m : Str → Option Value} {env : Env}
  {elt : Expr} {x : Str} {scope : Scope} {cl : List (Str × Addr)}
variable {Fin : Shared → List Value → List (Addr × Obj) → Prop} {news : List (Addr × Obj)} {s₁ : Shared}
open LCg
theorem comp_str {xt : Str} {tx : Tok} (hh : A.handled = none) (F : Fr h₀ L s₁.heap m) (N : News h₀ L s₁.heap news) (hsz : xt.cps.size ≤ sizeLine)
    (h : ∀ g, CompRest prog w A h₀ L m env elt x scope cl { s₁ with heap := g } (fun _ => True) (SignAt xt) (Fin { s₁ with heap := g }) xt.cps.size 0 [] news) :
    CompGo prog w A h₀ L m env elt x scope cl Fin E (.str xt tx) s₁ := by
  have go : ∀ (nm : String), Walks prog w A s₁.heap.objs.size [s₁.heap.objs.size] [s₁.heap.objs.size] xt.cps.size (SignAt xt) (fun i h => h.IsStrIter s₁.heap.objs.size nm xt tx i) →
      (fun (it : Value) (s₂ : Shared) => ∃ (I : Addr) (fp : List Addr) (n : Nat) (P : Nat → Value → Prop) (St : Nat → Heap → Prop) (S : List (Addr × Obj) → Prop) (news : List (Addr × Obj)), it = .ref I ∧ Walks prog w A I fp [I] n P St ∧ n ≤ sizeLine ∧ (∀ i h, St i h → ∃ o, h.get? I = some o) ∧
    (∀ i h h' o nw, St i h → h.get? I = some o → h'.get? I = some o → (∀ b o, h₀.get? b = some o → h'.get? b = some o) → News h₀ L h' nw → S nw → St i h') ∧ St 0 s₂.heap ∧ (∀ b ∈ fp, b < s₂.heap.objs.size) ∧
    Fr h₀ L s₂.heap m ∧ News h₀ L s₂.heap news ∧ L ≠ I ∧ h₀.get? I = none ∧ (∀ p ∈ news, p.1 ≠ I) ∧ S news ∧
    CompRest prog w A h₀ L m env elt x scope cl s₂ S P (Fin s₂) n 0 [] news) (.ref s₁.heap.objs.size) { s₁ with heap := s₁.heap.push { cls := .type nm, data := .fields #[.str xt tx, .int 0 0] } } := by
    intro nm Wk
    have up : ∀ a o, s₁.heap.get? a = some o → (s₁.heap.push { cls := .type nm, data := .fields #[.str xt tx, .int 0 0] }).get? a = some o := fun a o e => Heap.get?_push_of_some _ e
    refine ⟨_, _, xt.cps.size, _, _, (fun _ => True), news, rfl, Wk, hsz, (fun i h st => by obtain ⟨o, e, _⟩ := st; exact ⟨o, e⟩), ?_, ⟨_, Heap.get?_push_size _ rfl, rfl, rfl⟩, (fun b hb => ?_),
      (F.keeps up), (N.grown up), (Nat.ne_of_lt F.ns.lt), (next_is_new F), (fun p hp => Nat.ne_of_lt (Heap.lt_size (N p hp).1)), trivial, h _⟩
    · intro i h h' o nw st e e' _ _ _
      obtain ⟨o', q, r⟩ := st
      rw [e] at q; cases q
      exact ⟨o, e', r⟩
    · rw [List.mem_singleton.mp hb]
      show s₁.heap.objs.size < (s₁.heap.push _).objs.size
      rw [Heap.size_push]; exact Nat.lt_succ_self _
  show wpAny _ _ _ _ _ _
  cases ha : xt.cps.all (· < 128)
  · exact wpAny_pyIter_wide ha (go "str_iterator" (Walks.strWide hh _ xt tx))
  · exact wpAny_pyIter_ascii ha (go "str_ascii_iterator" (Walks.strAscii hh _ xt tx))
end
section
variable {prog : Program} {w : World} {A : Around} {E : Value → Shared → Prop} {s : Shared} {h₀ : Heap} {L : Addr} {m : Str → Option Value} {env : Env}
  {ct elt iter : Expr} {x : Str} {px pos : Pos} {scope : Scope} {cl : List (Str × Addr)}
open LCg LCt
def CompGoT (prog : Program) (w : World) (A : Around) (h₀ : Heap) (L : Addr) (m : Str → Option Value) (env : Env) (ct elt : Expr) (x : Str) (scope : Scope) (cl : List (Str × Addr)) (Fin : Shared → List Value → List (Addr × Obj) → Prop) (E : Value → Shared → Prop) (xv : Value) (s₁ : Shared) : Prop :=
  wpAny (model prog w) A (pyIter xv) (fun it s₂ => ∃ I fp n P St S news, it = .ref I ∧ Walks prog w A I fp [I] n P St ∧ n ≤ sizeLine ∧ (∀ i h, St i h → ∃ o, h.get? I = some o) ∧
    (∀ i h h' o nw, St i h → h.get? I = some o → h'.get? I = some o → (∀ b o, h₀.get? b = some o → h'.get? b = some o) → News h₀ L h' nw → S nw → St i h') ∧ St 0 s₂.heap ∧ (∀ b ∈ fp, b < s₂.heap.objs.size) ∧
    Fr h₀ L s₂.heap m ∧ News h₀ L s₂.heap news ∧ L ≠ I ∧ h₀.get? I = none ∧ (∀ p ∈ news, p.1 ≠ I) ∧ S news ∧
    CompRestT prog w A h₀ L m env ct elt x scope cl s₂ S P (Fin s₂) n 0 [] news) E s₁
theorem ListComp_GT {Q : Value → Shared → Prop} (_F₀ : Fr h₀ L s.heap m)
    (hclos : closureFor scope env = pure cl) (hcell : ∀ y ∈ scope.names, y.2 ≠ .cell) (hkind : scope.kind = .function)
    (hnames : ∀ y ∈ scope.names, y.2 = .local → scope.names.lookup y.1 = some .local) (hx : scope.names.lookup x = some .local)
    (h : wpAny (model prog w) A (eval iter env) (fun xv s₁ => CompGoT prog w A h₀ L m env ct elt x scope cl (fun s₂ => FinE h₀ L m s₂ Q) E xv s₁) E s)
    (hs : ∀ x, foldedSetIterable iter env x = pure x := by intro _; rfl) :
    wpAny (model prog w) A (eval (.ListComp elt [⟨.Name x px, iter, [ct], 0⟩] scope pos) env) Q E s := by
  rw [eval_ListComp]
  refine wpAny_comprehension_free (use := none) rfl hs hclos hkind hnames (wpAny_mono h (fun xv s₁ h₁ => ?_) fun _ _ e => e)
  refine wpAny_mono h₁ (fun it s₂ h₂ => ?_) fun _ _ e => e
  obtain ⟨I, fp, n, P, St, S, news, rfl, Wk, hsz, hIo, hSt, hst, hfp, F, N, hIL, hI₀, off, hS, R⟩ := h₂
  refine block_T Wk hsz hIo hSt hcell hkind hx hst hfp F N hIL hI₀ off hS R ?_
  intro D C h tk m' ys news' F' N' o1 hn hC₀ hD₀ hCL hDL hCD offC fin
  refine ⟨m', hn, fun h'' hs'' => fin D h'' tk (F'.change hs'' hCL hC₀) (fun p hp => ?_) o1⟩
  refine ⟨hs''.extBut _ _ ?_ (N' p hp).1, (N' p hp).2⟩
  rcases List.mem_cons.mp hp with rfl | hp
  · exact Ne.symm hCD
  · exact offC p hp
variable {Fin : Shared → List Value → List (Addr × Obj) → Prop} {news : List (Addr × Obj)} {s₁ : Shared}
theorem compT_bytes {b : Array UInt8} {tb : Tok} (hh : A.handled = none) (F : Fr h₀ L s₁.heap m) (N : News h₀ L s₁.heap news) (hsz : b.size ≤ sizeLine)
    (h : ∀ g, CompRestT prog w A h₀ L m env ct elt x scope cl { s₁ with heap := g } (fun _ => True) (fun i v => ∃ (c : UInt8) (u : Tok), b[i]? = some c ∧ v = .int c.toNat u) (Fin { s₁ with heap := g }) b.size 0 [] news) :
    CompGoT prog w A h₀ L m env ct elt x scope cl Fin E (.bytes b tb) s₁ := by
  refine KBw.pyIter_bytes ?_
  have up : ∀ a o, s₁.heap.get? a = some o → (s₁.heap.push { cls := .type "bytes_iterator", data := .fields #[.bytes b tb, .int 0 0] }).get? a = some o := fun a o e => Heap.get?_push_of_some _ e
  refine ⟨_, _, b.size, _, _, (fun _ => True), news, rfl, KBw.walks (prog := prog) (w := w) hh s₁.heap.objs.size b tb, hsz, (fun i h st => by obtain ⟨o, e, _⟩ := st; exact ⟨o, e⟩), ?_, ⟨_, Heap.get?_push_size _ rfl, rfl, rfl⟩, (fun b hb => ?_),
      (F.keeps up), (N.grown up), (Nat.ne_of_lt F.ns.lt), (next_is_new F), (fun p hp => Nat.ne_of_lt (Heap.lt_size (N p hp).1)), trivial, h _⟩
  · intro i h h' o nw st e e' _ _ _
    obtain ⟨o', q, r⟩ := st
    rw [e] at q; cases q
    exact ⟨o, e', r⟩
  · rw [List.mem_singleton.mp hb]
    show s₁.heap.objs.size < (s₁.heap.push _).objs.size
    rw [Heap.size_push]; exact Nat.lt_succ_self _
/-- no element passes the test -/
theorem compT_none {S : List (Addr × Obj) → Prop} {P : Nat → Value → Prop} {Fi : List Value → List (Addr × Obj) → Prop} {n : Nat}
    (turn : ∀ i v I oI C oC D m₂ h tk (E' : Value → Shared → Prop), i < n → P i v → NsObj oC m₂ → m₂ x = some v → Fr h₀ L h m → News h₀ L h ((I, oI) :: (C, oC) :: (D, lst []) :: news) → Off3 I C D news → ((@Ne Nat I C) ∧ (@Ne Nat I D) ∧ (@Ne Nat C D)) →
      wpAny (model prog w) A (isTrue ct (compEnvC scope cl C env) (eval ct (compEnvC scope cl C env))) (fun ok s' => ok = false ∧ CompEnd h₀ L m { s with heap := h, toks := tk } I oI C oC D (lst []) (fun _ => True) (fun _ news' => news' = news) Value.none s') E' { s with heap := h, toks := tk })
    (hS : S news) (fin : Fi [] news) : CompRestT prog w A h₀ L m env ct elt x scope cl s S P Fi n 0 [] news := by
  have key : ∀ (j i : Nat), i + j = n → CompRestT prog w A h₀ L m env ct elt x scope cl s S P Fi j i [] news := by
    intro j
    induction j with
    | zero => intro i hi; exact CompRestT.zero fin
    | succ j ih =>
      intro i hi
      refine CompRestT.succ ?_
      intro v I oI C oC D m₂ h tk E' hv hC hx F N off ne
      refine wpAny_mono (turn i v I oI C oC D m₂ h tk E' (by omega) hv hC hx F N off ne) (fun ok s₂ hq => ?_) fun _ _ e => e
      obtain ⟨rfl, h', tk', nw, e, F', N', off', _, rfl⟩ := hq
      rw [if_neg (by simp)]
      exact ⟨h', tk', nw, e, F', N', off', hS, ih (i + 1) (by omega)⟩
  exact key n 0 (by omega)
end

section
variable {prog p : Program} {lz : List Str} {w : World} {mean : ExcName → Option Value} {mg mb : Str → Option Value} {dp un : Nat} {gd : Option (List Code)} {base : Heap} {outer : List Env} {n : Nat}
  {Q E : Value → Shared → Prop} {s : Shared}
def SpOk (cs : List Nat) (i : Nat) (os : List Int) (run : List Nat) : Prop := (i ≤ cs.length → os ++ enc (run ++ cs.drop i) = enc cs ∧ ∀ c ∈ run, RunCode c) ∧ (i = cs.length + 1 → os = enc cs)
theorem sp_run {cs : List Nat} {i : Nat} {os : List Int} {run : List Nat} (h : i < cs.length) (hr : RunCode cs[i]) (S : SpOk cs i os run) : SpOk cs (i + 1) os (run ++ [cs[i]]) := by
  have h1 := S.1 (Nat.le_of_lt h)
  refine ⟨fun _ => ⟨?_, fun c hc => ?_⟩, fun h' => by omega⟩
  · rw [List.append_assoc, List.singleton_append, ← List.drop_eq_getElem_cons h]; exact h1.1
  · rcases List.mem_append.mp hc with hc | hc
    · exact h1.2 c hc
    · rw [List.mem_singleton.mp hc]; exact hr
theorem sp_plain {cs : List Nat} {i : Nat} {os : List Int} (h : i < cs.length) (hp : plainN cs[i] = true) (S : SpOk cs i os []) : SpOk cs (i + 1) (os ++ (if cs[i] = 38 then [38, 45] else [(cs[i] : Int)])) [] := by
  have h1 := S.1 (Nat.le_of_lt h)
  refine ⟨fun _ => ⟨?_, fun c hc => nomatch hc⟩, fun h' => by omega⟩
  rw [← h1.1, List.nil_append, List.nil_append, List.drop_eq_getElem_cons h, enc_cons_plain hp, List.append_assoc]
theorem sp_flush {cs : List Nat} {i : Nat} {os : List Int} {run : List Nat} (hi : i ≤ cs.length) (hne : run ≠ []) (hp : ∀ h : i < cs.length, plainN cs[i] = true) (S : SpOk cs i os run) : SpOk cs i (os ++ encRun run) [] := by
  have h1 := S.1 hi
  refine ⟨fun _ => ⟨?_, fun c hc => nomatch hc⟩, fun h' => by omega⟩
  rw [← h1.1, List.nil_append, enc_app_run hne (fun c hc => (h1.2 c hc).1) (fun c hc => ?_), List.append_assoc]
  rcases Nat.lt_or_ge i cs.length with h | h
  · rw [List.drop_eq_getElem_cons h] at hc
    cases hc
    exact hp h
  · rw [List.drop_of_length_le h] at hc; cases hc
theorem sp_last {cs : List Nat} {os : List Int} (S : SpOk cs cs.length os []) : SpOk cs (cs.length + 1) os [] := by
  have h1 := (S.1 (Nat.le_refl _)).1
  refine ⟨fun h => by omega, fun _ => ?_⟩
  rw [List.drop_length, List.append_nil, enc_nil, List.append_nil] at h1
  exact h1
theorem chars_app (a b : List Int) : chars (a ++ b) = chars a ++ chars b := by
  show (⟨_⟩ : PySem.Str) = ⟨(chars a).cps ++ (chars b).cps⟩
  simp [chars]
theorem chars_len (a : List Int) : (chars a).length = a.length := by simp [chars, Str.length]
theorem allLt {d : Nat} : ∀ {news : List (Addr × Obj)}, AllLt d news → ∀ p ∈ news, p.1 < d
  | [], _, _, h => nomatch h
  | q :: r, h, p, hp => by
    rcases List.mem_cons.mp hp with rfl | hp
    · exact h.1
    · exact allLt h.2 p hp
theorem chars_amp : Str.ofString "&-" = chars [38, 45] := by decide +kernel
abbrev SPC := List Int × Tok × Addr × List Value × Nat × List Nat
def SPP (cs : List Nat) (pre : List Int) (c : SPC) : Prop := SpOk cs pre.length c.1 c.2.2.2.2.2 ∧ IntsAre c.2.2.2.1 (c.2.2.2.2.2.map fun c : Nat => (c : Int)) ∧ c.2.2.2.2.2.length ≤ pre.length
theorem sp_end {cs : List Nat} {D2 : Addr} {ws : List Value} {h₀ : Heap} {L : Addr} {x : Str} {m₀ m' : Str → Option Value} {pre : List Int} {own news' : List (Addr × Obj)} {s₁ : Shared} {h' : Heap} {tk : Nat} {os : List Int} {t : Tok} {lr : Addr} {us : List Value} {k : Nat} {run : List Nat}
    (F : Fr h₀ L h' m') (N : News h₀ L h' news') (m1 : (lr, W.listOf us.toArray k) ∈ news') (m2 : (D2, W.listOf ws.toArray 0) ∈ news') (ho : ∀ p ∈ own, p ∈ news') (ha1 : ∀ p ∈ own, p.1 ≠ lr) (ha2 : ∀ p ∈ own, p.1 ≠ D2) (hne : lr ≠ D2)
    (hk1 : m' (Str.ofString "found") = some (.str (chars os) t)) (hk2 : m' (Str.ofString "run") = some (.ref lr)) (hr : ∀ z, z ≠ x → z ≠ Str.ofString "found" → z ≠ Str.ofString "run" → m' z = m₀ z)
    (hp1 : SpOk cs pre.length os run) (hp2 : IntsAre us (run.map fun c : Nat => (c : Int))) (hp3 : run.length ≤ pre.length) :
    KsgEnd h₀ L (fun c : SPC => [(c.2.2.1, W.listOf c.2.2.2.1.toArray c.2.2.2.2.1), (D2, W.listOf ws.toArray 0)]) (fun c => [(Str.ofString "found", .str (chars c.1) c.2.1), (Str.ofString "run", .ref c.2.2.1)]) (fun c => c.2.2.1 ≠ D2) x [] m₀ (SPP cs) pre own s₁ { s₁ with heap := h', toks := tk } :=
  ksg_end (os, t, lr, us, k, run) F N (fun p hp => by
      rcases List.mem_cons.mp hp with rfl | hp
      · exact m1
      · rw [List.mem_singleton.mp hp]; exact m2) ho (fun p hp b hb => by
      rcases List.mem_cons.mp hb with rfl | hb
      · exact ha1 p hp
      · rw [List.mem_singleton.mp hb]; exact ha2 p hp) hne (fun p hp => by
      rcases List.mem_cons.mp hp with rfl | hp
      · exact hk1
      · rw [List.mem_singleton.mp hp]; exact hk2) (fun z hz1 hz2 _ => hr z hz1 (hz2 _ (.head _)) (hz2 _ (.tail _ (.head _)))) ⟨hp1, hp2, hp3⟩
local macro_rules | `(tactic| walk_at "call builtin:chr") => `(tactic| (k_here; k_dflt (refine' chr_of_range ?h0 ?h1 ?_; (case h0 => omega); (case h1 => omega))))
set_option maxHeartbeats 4000000 in
theorem ct_spelled {l : Addr} {vs : List Value} {cs : List Nat} (S : Sit p lz w mean mg mb dp un gd base outer (n + 9) s.heap)
  (hl : s.heap.IsList l vs.toArray) (hi : IntsAre vs (cs.map fun c : Nat => (c : Int))) (hk : cs.length ≤ 20) (hv : ∀ c ∈ cs, c < 1114112 ∧ ¬ (55296 ≤ c ∧ c ≤ 57343))
  (hret : ∀ t h' tk', s.heap.StaysIn h' → Q (.str (chars (enc cs)) t) { s with heap := h', toks := tk' }) :
  wpAny (model prog w) (ar dp un gd outer) (call (.ref 184) [.ref l]) Q E s := by
  k_dflt refine' enterS (binds := [(Str.ofString "codes", .ref l)]) S ?k6 ?k7 ?k9 ?kB ?c2 ?c3 ?c4 ?c5 ?_
  (k_dflt ((case k6 => k_is); (case k7 => k_is); (case k9 => exact BindsTo.of_eq rfl); (case c5 => decide); (case kB => exact locs rfl); (case c2 => exact rfl); (case c3 => exact rfl); (case c4 => exact rfl)); k_whole; intro L1 h1 F1 N1 B1 X1 T1 hroom hunits; (try dsimp only [List.reverse_cons, List.reverse_nil, List.nil_append, List.cons_append]); (try k_fold))
  k_with_none
  k_steps
  (rename Fr _ _ _ _ => F5); (rename News _ _ _ _ => N5)
  rename_i l1 _ _ D1 _ _ _ _ _ l2 _ _ D2 ws _ hI l1'
  refine' unhalt (ksg_list (σ := SPC) (vs := ws) (nn := 0) (l := D2) (fun c => [(c.2.2.1, W.listOf c.2.2.2.1.toArray c.2.2.2.2.1), (D2, W.listOf ws.toArray 0)]) (fun c => [(Str.ofString "found", .str (chars c.1) c.2.1), (Str.ofString "run", .ref c.2.2.1)]) (fun c => c.2.2.1 ≠ D2) []
    (SPP cs) ([], ?tb0, l1, [], 0, []) rfl (fun c => .tail _ (.head _)) hI F5 ?hN (Nat.ne_of_lt l1'.2.2) ?hk0 ⟨⟨fun _ => ⟨rfl, fun _ h => nomatch h⟩, fun h => by simp at h⟩, .nil, Nat.le_refl _⟩ ?_ ?_)
  case hk0 =>
    intro p hp
    rcases List.mem_cons.mp hp with rfl | hp
    · rfl
    · cases List.mem_singleton.mp hp; rfl
  case hN =>
    intro p hp
    rcases List.mem_cons.mp hp with rfl | hp
    · exact N5 _ (.tail _ (.tail _ (.tail _ (.head _))))
    · rw [List.mem_singleton.mp hp]; exact N5 _ (.head _)
  · rintro ⟨os, t0, lr, us, k, run⟩ pre post x t u h tk own e hoff hf ⟨hp1, hp2, hp3⟩ F N
    dsimp only at hf hp1 hp2 hp3 F N
    clear F5 N5
    have hof1 : ∀ p ∈ own, p.1 ≠ lr := fun p hp => hoff p hp _ (.head _)
    have hof2 : ∀ p ∈ own, p.1 ≠ D2 := fun p hp => hoff p hp _ (.tail _ (.head _))
    have hx : (cs.map (fun c : Nat => (c : Int)) ++ [-1])[pre.length]? = some x := by rw [e]; simp
    have hpl : pre.length ≤ cs.length := by
      have := (List.getElem?_eq_some_iff.mp hx).1; simp at this; omega
    have hul : us.length = run.length := by have := hp2.length; simpa using this
    have hol : os.length ≤ 200 := by
      have h1 := (hp1.1 hpl).1; have h2 := enc_len cs
      have h3 := congrArg List.length h1; rw [List.length_append] at h3; omega
    have hcl := chars_len os
    have hu64 : ((ar dp un gd outer).deeper (envOf (Str.ofString "_law_spelled") default L1 184 (.ref 183))).units + 64 < cLine := by
      simp only [units_deeper]; omega
    rcases Nat.lt_or_ge pre.length cs.length with hlt | hge
    · have hxc : x = (cs[pre.length] : Int) := by
        rw [List.getElem?_append_left (by simpa using hlt), List.getElem?_map, List.getElem?_eq_getElem hlt] at hx
        exact (Option.some.inj hx).symm
      have hvc := hv _ (List.getElem_mem hlt)
      have hrun := sp_run (os := os) (run := run) hlt
      have hplain := sp_plain (os := os) hlt
      have hflush := sp_flush (i := pre.length) (os := os) (run := run) hpl
      cases hq : plainN cs[pre.length] with
      | false =>
        have hq' := (plainN_false _).mp hq
        have hS := hrun ⟨hq, hvc⟩ hp1
        generalize cs[pre.length] = c0 at *
        have hoffA : ∀ q ∈ (D2, W.listOf ws.toArray 0) :: own, q.1 ≠ lr := fun q hq => by
          rcases List.mem_cons.mp hq with rfl | hq
          · exact Ne.symm hf
          · exact hof1 q hq
        k_steps
        all_goals (
          refine append_K F N (.head hoffA) (fun h8 F8 N8 => ?_) (by rw [sizeLine_eq]; simp; omega)
          simp only [List.push_toArray] at N8
          k_steps
          rw [hxc] at N8
          exact sp_end (us := us ++ [.int (c0 : Int) t]) (run := run ++ [c0]) F8 N8 (.head _) (.tail _ (.head _)) (fun p hp => .tail _ (.tail _ hp)) hof1 hof2 hf (by with_unfolding_all rfl) (by with_unfolding_all rfl) (by (intro z hz1 hz2 hz3; simp [hz1, hz2, hz3, kstB]))
            (by rw [List.length_append, List.length_singleton]; exact hS) (by rw [List.map_append]; exact IntsAre.append hp2 (.cons _ _ .nil)) (by simp; omega))
      | true =>
        have hq' := (plainN_iff _).mp hq
        by_cases hre : run = []
        · subst hre
          have hS := hplain hq hp1
          have hdd : decide (List.map (fun c : Nat => (c : Int)) [] = []) = true := rfl
          have hus : us = [] := List.length_eq_zero_iff.mp hul
          generalize cs[pre.length] = c0 at *
          k_steps
          · (rename Fr _ _ _ _ => F9); (rename News _ _ _ _ => N9)
            have h38 : c0 = 38 := by omega
            rw [if_pos h38] at hS
            have hca : chars (os ++ [38, 45]) = chars os ++ Str.ofString "&-" := by rw [chars_app, chars_amp]
            exact sp_end (us := us) (os := os ++ [38, 45]) (run := []) F9 N9 (.tail _ (.head _)) (.tail _ (.tail _ (.head _))) (fun p hp => .tail _ (.tail _ (.tail _ hp))) hof1 hof2 hf (by rw [hca]; with_unfolding_all rfl) (by with_unfolding_all rfl) (by (intro z hz1 hz2 hz3; simp [hz1, hz2, hz3, kstB]))
              (by rw [List.length_append, List.length_singleton]; exact hS) hp2 (Nat.zero_le _)
          · (rename Fr _ _ _ _ => F9); (rename News _ _ _ _ => N9)
            have h38 : ¬ c0 = 38 := by omega
            rw [if_neg h38] at hS
            have hca : chars (os ++ [(c0 : Int)]) = chars os ++ ⟨#[x.toNat]⟩ := by rw [chars_app, hxc]; rfl
            exact sp_end (us := us) (os := os ++ [(c0 : Int)]) (run := []) F9 N9 (.tail _ (.head _)) (.tail _ (.tail _ (.head _))) (fun p hp => .tail _ (.tail _ (.tail _ hp))) hof1 hof2 hf (by rw [hca]; with_unfolding_all rfl) (by with_unfolding_all rfl) (by (intro z hz1 hz2 hz3; simp [hz1, hz2, hz3, kstB]))
              (by rw [List.length_append, List.length_singleton]; exact hS) hp2 (Nat.zero_le _)
        · have hdd : decide (List.map (fun c : Nat => (c : Int)) run = []) = false := by simp [hre]
          have hfl := hflush hre (fun _ => hq) hp1
          have hS := sp_plain hlt hq hfl
          have hrl : (encRun run).length ≤ 200 := by have := encRun_len run (List.length_pos_iff.mpr hre); omega
          have hcr := chars_len (encRun run)
          have hvr : ∀ c ∈ run, c < 1114112 := fun c hc => ((hp1.1 hpl).2 c hc).2.1
          generalize cs[pre.length] = c0 at *
          k_steps
          (rename Fr _ _ _ _ => F6); (rename News _ _ _ _ => N6)
          k_dflt refine' ct_lshift (run := run) (Sit.use ?B ?F ?X ?T ?r ?u) ⟨_, (N6 _ (.tail _ (.head _))).1, rfl, _, rfl⟩ hp2 (by omega) hvr ?_
          walk_at "sit"
          intro t7 h7 tk7 k7
          have F7 := fr_stays F6 k7
          have N7 := news_stays N6 k7
          k_steps
          · (rename Fr _ _ _ _ => F9); (rename News _ _ _ _ => N9); (rename _ ∧ AllLt _ _ => l5)
            have h38 : c0 = 38 := by omega
            rw [if_pos h38] at hS
            have hca : chars (os ++ encRun run ++ [38, 45]) = chars os ++ chars (encRun run) ++ Str.ofString "&-" := by rw [chars_app, chars_app, chars_amp]
            exact sp_end (us := []) (os := os ++ encRun run ++ [38, 45]) (run := []) F9 N9 (.head _) (.tail _ (.tail _ (.tail _ (.head _)))) (fun p hp => .tail _ (.tail _ (.tail _ (.tail _ hp)))) (fun p hp => Nat.ne_of_lt (allLt l5.2 _ (.tail _ (.tail _ hp)))) hof2 (Nat.ne_of_gt (allLt l5.2 _ (.tail _ (.head _)))) (by rw [hca]; with_unfolding_all rfl) (by with_unfolding_all rfl) (by (intro z hz1 hz2 hz3; simp [hz1, hz2, hz3, kstB]))
              (by rw [List.length_append, List.length_singleton]; exact hS) .nil (Nat.zero_le _)
          · (rename Fr _ _ _ _ => F9); (rename News _ _ _ _ => N9); (rename _ ∧ AllLt _ _ => l5)
            have h38 : ¬ c0 = 38 := by omega
            rw [if_neg h38] at hS
            have hca : chars (os ++ encRun run ++ [(c0 : Int)]) = chars os ++ chars (encRun run) ++ ⟨#[x.toNat]⟩ := by rw [chars_app, chars_app, hxc]; rfl
            exact sp_end (us := []) (os := os ++ encRun run ++ [(c0 : Int)]) (run := []) F9 N9 (.head _) (.tail _ (.tail _ (.tail _ (.head _)))) (fun p hp => .tail _ (.tail _ (.tail _ (.tail _ hp)))) (fun p hp => Nat.ne_of_lt (allLt l5.2 _ (.tail _ (.tail _ hp)))) hof2 (Nat.ne_of_gt (allLt l5.2 _ (.tail _ (.head _)))) (by rw [hca]; with_unfolding_all rfl) (by with_unfolding_all rfl) (by (intro z hz1 hz2 hz3; simp [hz1, hz2, hz3, kstB]))
              (by rw [List.length_append, List.length_singleton]; exact hS) .nil (Nat.zero_le _)
    · have hpe : pre.length = cs.length := by omega
      have hxc : x = -1 := by
        rw [List.getElem?_append_right (by simp; omega)] at hx
        simp [hpe] at hx
        exact hx.symm
      subst hxc
      have hflush := sp_flush (i := pre.length) (os := os) (run := run) hpl
      by_cases hre : run = []
      · subst hre
        have hS : SpOk cs (pre.length + 1) os [] := by rw [hpe] at hp1 ⊢; exact sp_last hp1
        have hdd : decide (List.map (fun c : Nat => (c : Int)) [] = []) = true := rfl
        k_steps
        (rename Fr _ _ _ _ => F9); (rename News _ _ _ _ => N9)
        exact sp_end (us := us) (os := os) (run := []) F9 N9 (.tail _ (.head _)) (.tail _ (.tail _ (.head _))) (fun p hp => .tail _ (.tail _ (.tail _ hp))) hof1 hof2 hf (by with_unfolding_all rfl) (by with_unfolding_all rfl) (by (intro z hz1 hz2 hz3; simp [hz1, hz2, hz3, kstB]))
          (by rw [List.length_append, List.length_singleton]; exact hS) hp2 (Nat.zero_le _)
      · have hdd : decide (List.map (fun c : Nat => (c : Int)) run = []) = false := by simp [hre]
        have hfl := hflush hre (fun h => by omega) hp1
        have hS : SpOk cs (pre.length + 1) (os ++ encRun run) [] := by rw [hpe] at hfl ⊢; exact sp_last hfl
        have hrl : (encRun run).length ≤ 200 := by have := encRun_len run (List.length_pos_iff.mpr hre); omega
        have hcr := chars_len (encRun run)
        have hvr : ∀ c ∈ run, c < 1114112 := fun c hc => ((hp1.1 hpl).2 c hc).2.1
        k_steps
        (rename Fr _ _ _ _ => F6); (rename News _ _ _ _ => N6)
        k_dflt refine' ct_lshift (run := run) (Sit.use ?B ?F ?X ?T ?r ?u) ⟨_, (N6 _ (.tail _ (.head _))).1, rfl, _, rfl⟩ hp2 (by omega) hvr ?_
        walk_at "sit"
        intro t7 h7 tk7 k7
        have F7 := fr_stays F6 k7
        have N7 := news_stays N6 k7
        k_steps
        (rename Fr _ _ _ _ => F9); (rename News _ _ _ _ => N9); (rename _ ∧ AllLt _ _ => l5)
        exact sp_end (us := []) (os := os ++ encRun run) (run := []) F9 N9 (.head _) (.tail _ (.tail _ (.tail _ (.head _)))) (fun p hp => .tail _ (.tail _ (.tail _ (.tail _ hp)))) (fun p hp => Nat.ne_of_lt (allLt l5.2 _ (.tail _ (.tail _ hp)))) hof2 (Nat.ne_of_gt (allLt l5.2 _ (.tail _ (.head _)))) (by rw [chars_app]; with_unfolding_all rfl) (by with_unfolding_all rfl) (by (intro z hz1 hz2 hz3; simp [hz1, hz2, hz3, kstB]))
          (by rw [List.length_append, List.length_singleton]; exact hS) .nil (Nat.zero_le _)
  · rintro ⟨os, t0, lr, us, k, run⟩ u h tk hf ⟨hp1, hp2, hp3⟩ F N
    dsimp only at hf hp1 hp2 hp3 F N
    clear F5 N5
    have hfin := hp1.2 (by simp)
    subst hfin
    k_steps
    exact hret _ _ _ (Fr.keep (by assumption))
end

set_option hygiene false in
local macro_rules | `(tactic| walk_at "wpOn") => `(tactic| (k_here; first
  | ((with_reducible show wpOn _ _ (execs (Stmt.Assign _ (Expr.Call (Expr.Name (Str.ofString "utf7_octets") _) _ _ _) _ :: _) _) _ _ _); k_dflt refine on_execs_cons (on_Assign (on_Call (f := .none) ?_)))
  | ((with_reducible show wpOn _ _ (call (Value.ref 137) _) _ _ _); refine halt ?_)))
local macro_rules | `(tactic| walk_at "eval ListComp Name") => `(tactic| (k_here; k_dflt (refine ListComp_GT (by k_asm) (by with_unfolding_all rfl) (by decide) (by rfl) (by decide) (by rfl) ?_)))

section
variable {prog p : Program} {lz : List Str} {w : World} {mean : ExcName → Option Value} {mg mb : Str → Option Value} {dp un : Nat} {gd : Option (List Code)} {base : Heap} {outer : List Env} {n : Nat}
  {Q : Value → Shared → Prop} {s : Shared}
theorem lawCode_ok (c : Int) : 0 ≤ lawCode c ∧ lawCode c < 1114112 ∧ ¬ (55296 ≤ lawCode c ∧ lawCode c ≤ 57343) := by
  unfold lawCode
  split
  · rename_i h
    have key : ∀ j : Nat, j < 27 → 0 ≤ menuL.getD j 0 ∧ menuL.getD j 0 < 1114112 ∧ ¬ (55296 ≤ menuL.getD j 0 ∧ menuL.getD j 0 ≤ 57343) := by decide
    exact key _ (by omega)
  · split <;> omega
theorem range_getD {α : Type} (f : Nat → α) (cs : List Nat) : (List.range cs.length).map (fun i => f (cs.getD i 0)) = cs.map f := by
  refine List.ext_getElem (by simp) fun i h1 h2 => ?_
  have hi : i < cs.length := by simpa using h2
  simp [hi]
theorem range_getDI (ks : List Int) : (List.range ks.length).map (fun i => ks.getD i 0) = ks := by
  refine List.ext_getElem (by simp) fun i h1 h2 => ?_
  simp [h2]
theorem law_codes {ns : List Int} {ys : List Value} {m : Nat} (hl : ys.length = m) (hm : m ≤ 20) (hy : ∀ (i : Nat) (y : Value), ys[i]? = some y → ∃ t, y = .int (lawCode (ns.getD i 0)) t) :
    ∃ cs : List Nat, (∀ c ∈ cs, c < 1114112 ∧ ¬ (55296 ≤ c ∧ c ≤ 57343)) ∧ IntsAre ys (cs.map fun c : Nat => (c : Int)) ∧ cs.length ≤ 20 := by
  refine ⟨(List.range m).map fun i => (lawCode (ns.getD i 0)).toNat, fun c hc => ?_, ?_, by simpa using hm⟩
  · obtain ⟨i, _, rfl⟩ := List.mem_map.mp hc
    have := lawCode_ok (ns.getD i 0)
    omega
  · have h := intsAre_of hl hy
    rw [List.map_map]
    have e : ((fun c : Nat => (c : Int)) ∘ fun i => (lawCode (ns.getD i 0)).toNat) = fun i => lawCode (ns.getD i 0) := by
      funext i
      have := lawCode_ok (ns.getD i 0)
      show ((lawCode (ns.getD i 0)).toNat : Int) = _
      omega
    rw [e]; exact h
set_option maxHeartbeats 4000000 in
theorem ct_law {l : Addr} {vs : List Value} {ns : List Int} (S : Sit p lz w mean mg mb dp un gd base outer (n + 10) s.heap)
  (hl : s.heap.IsList l vs.toArray) (hi : IntsAre vs ns) (hk : ns.length ≤ 63)
  (hret : ∀ h' tk', s.heap.StaysIn h' → Q (.bool true) { s with heap := h', toks := tk' }) :
  wpOn (model prog w) (ar dp un gd outer) (call (.ref 189) [.ref l]) Q noE s := by
  k_dflt refine' on_enterS (binds := [(Str.ofString "script", .ref l)]) S ?k6 ?k7 ?k9 ?kB ?c2 ?c3 ?c4 ?c5 ?_
  (k_dflt ((case k6 => k_is); (case k7 => k_is); (case k9 => exact BindsTo.of_eq rfl); (case c5 => decide); (case kB => exact locs rfl); (case c2 => exact rfl); (case c3 => exact rfl); (case c4 => exact rfl)); k_whole; intro L1 h1 F1 N1 B1 X1 T1 hroom hunits; (try dsimp only [List.reverse_cons, List.reverse_nil, List.nil_append, List.cons_append]); (try k_fold))
  k_with_none
  k_steps
  (rename Fr _ _ _ _ => F5); (rename News _ _ _ _ => N5)
  rename_i D5 ws _ hI hC hL _
  have hwl : ws.length = (List.take 20 ns).length := hI.length
  refine comp_listB rfl F5 N5 (.inr ⟨_, .head _, rfl, _, rfl⟩) (by rw [sizeLine_eq]; simp; omega) fun g => ?_
  refine comp_each (fun i y => ∃ t, y = .int (lawCode ((List.take 20 ns).getD i 0)) t) ?_ (.inr ⟨_, .head _, rfl, _, rfl⟩) ?_
  · rintro i v I oI C oC D m₂ ys h tk E' hi5 hv5 hC5 hx5 F5 N5 off ne
    have hi6 : i < ws.length := by simpa using hi5
    obtain ⟨t5, ht5⟩ := hI.get i (List.take 20 ns)[i] (List.getElem?_eq_getElem (by omega))
    have hv6 : v = .int (List.take 20 ns)[i] t5 := by
      have : ws[i]? = some v := by simpa using hv5
      rw [ht5] at this; exact (Option.some.inj this).symm
    subst hv6
    k_steps
    k_dflt refine' ct_lcode (Sit.use ?B ?F ?X ?T ?r ?u) ?_
    walk_at "sit"
    intro t7 h7 tk7 k7
    have F7 := fr_stays F5 k7
    have N7 := news_stays N5 k7
    k_steps
    refine LCg.CompEnd.intro F7 N7 _ (fun _ hp => hp) off trivial ⟨rfl, t7, ?_⟩
    rw [List.getD_eq_getElem?_getD, List.getElem?_eq_getElem (by omega)]; rfl
  · intro ys hyl hy
    obtain ⟨cs, hv, hI2, hcl⟩ := law_codes hyl (by simp; omega) hy
    clear hy
    k_steps
    (rename Fr _ _ _ _ => F6); (rename News _ _ _ _ => N6)
    have hysl : ys.length = cs.length := by have := hI2.length; simpa using this
    refine comp_listB rfl F6 N6 (.inr ⟨_, .head _, rfl, _, rfl⟩) (by rw [sizeLine_eq]; simp; omega) fun g => ?_
    refine comp_each (fun i y => ∃ t, y = .str ⟨#[cs.getD i 0]⟩ t) ?_ (.inr ⟨_, .head _, rfl, _, rfl⟩) ?_
    · rintro i v I oI C oC D m₂ ys h tk E' hi5 hv5 hC5 hx5 F5 N5 off ne
      have hi6 : i < cs.length := by simp at hi5; omega
      obtain ⟨t5, ht5⟩ := hI2.get i (cs[i] : Int) (by simp [hi6])
      have hv6 : v = .int (cs[i] : Int) t5 := by
        rw [List.getElem?_toArray, ht5] at hv5; exact (Option.some.inj hv5).symm
      subst hv6
      have hvc := hv _ (List.getElem_mem hi6)
      k_steps
      refine LCg.CompEnd.intro F5 N5 _ (fun _ hp => hp) off trivial ⟨rfl, _, congrArg (fun z : PySem.Str => Value.str z _) ?_⟩
      rw [List.getD_eq_getElem?_getD, List.getElem?_eq_getElem hi6]; rfl
    · intro zs hzl hz
      k_steps
      (rename Fr _ _ _ _ => F7); (rename News _ _ _ _ => N7)
      have hS := strsAre_of hzl hz
      rw [show ys.toArray.size = cs.length by simpa using hysl, range_getD (fun c => (⟨#[c]⟩ : PySem.Str)) cs] at hS
      have hSc := hS.carried
      clear hz
      refine KT.join_1 (ys := zs) (l := cs) (g := fun d => (⟨#[d]⟩ : PySem.Str)) ⟨_, (N7 _ (.head _)).1, rfl, _, rfl⟩ (by rw [List.map_map] at hSc; exact hSc) (fun _ _ => rfl) (by omega) fun t' k' _ => ?_
      rw [join_singles]
      k_steps
      (rename Fr _ _ _ _ => F8); (rename News _ _ _ _ => N8)
      k_dflt refine' unhalt (ct_seven (Sit.use ?B2 ?F2 ?X2 ?T2 ?r2 ?u2) hv (by omega) ?_)
      case B2 => k_asm
      case F2 => exact F8
      case X2 => k_asm
      case T2 => k_asm
      case r2 => omega
      case u2 => omega
      intro b9 t9 h9 tk9 k9 i9
      have F9 := fr_stays F8 k9
      have N9 := news_stays N8 k9
      k_steps
      (rename Fr _ _ _ _ => F10); (rename News _ _ _ _ => N10)
      k_dflt refine' ct_spelled (Sit.use ?B3 ?F3 ?X3 ?T3 ?r3 ?u3) ⟨_, (N10 _ (.tail _ (.head _))).1, rfl, _, rfl⟩ hI2 hcl hv ?_
      case B3 => k_asm
      case F3 => exact F10
      case X3 => k_asm
      case T3 => k_asm
      case r3 => omega
      case u3 => omega
      intro t11 h11 tk11 k11
      have F11 := fr_stays F10 k11
      have N11 := news_stays N10 k11
      k_steps
      have hein := enc_in cs
      have hel := enc_len cs
      have hcsz : (chars (enc cs)).cps.size = (enc cs).length := chars_len _
      refine comp_str rfl F11 N11 (by rw [sizeLine_eq, hcsz]; omega) fun g => ?_
      refine comp_each (fun i y => ∃ t, y = .int ((enc cs).getD i 0) t) ?_ trivial ?_
      · rintro i v I oI C oC D m₂ ys h tk E' hi5 ⟨c5, t5, hc5, rfl⟩ hC5 hx5 F5 N5 off ne
        have hi6 : i < (enc cs).length := by omega
        have hc6 : c5 = ((enc cs)[i]).toNat := by
          have : ((enc cs).map Int.toNat).toArray[i]? = some c5 := hc5
          rw [List.getElem?_toArray, List.getElem?_map, List.getElem?_eq_getElem hi6] at this
          exact (Option.some.inj this).symm
        have hin6 := hein _ (List.getElem_mem hi6)
        k_steps
        refine LCg.CompEnd.intro F5 N5 _ (fun _ hp => hp) off trivial ⟨rfl, _, congrArg (fun z => Value.int z _) ?_⟩
        rw [List.getD_eq_getElem?_getD, List.getElem?_eq_getElem hi6, hc6]
        show (((enc cs)[i]).toNat : Int) = (enc cs)[i]
        omega
      · intro xs hxl hx
        rw [hcsz] at hxl
        have hIx := intsAre_of hxl hx
        rw [show (List.range (enc cs).length).map (fun i => (enc cs).getD i 0) = enc cs from range_getDI _] at hIx
        clear hx
        have hb9 : b9 = byteArr (enc cs) := by rw [← i9, byteArr_ints]
        have hbb : (b9.toList != (byteArr (enc cs)).toList) = false := by rw [hb9]; simp
        have hrg := enc_range _ cs (Nat.le_refl _)
        have hbs : b9.size = (enc cs).length := by rw [← i9, KBw.ints_length]
        k_steps
        (rename Fr _ _ _ _ => F12); (rename News _ _ _ _ => N12)
        refine compT_bytes rfl F12 N12 (by rw [sizeLine_eq, hbs]; omega) fun g => ?_
        refine compT_none ?_ trivial ?_
        · rintro i v I oI C oC D m₂ h tk E' hi5 ⟨c5, t5, hc5, rfl⟩ hC5 hx5 F5 N5 off ne
          have hc6 : (c5.toNat : Int) ∈ enc cs := by
            rw [← i9]
            exact List.mem_map.mpr ⟨c5, by rw [Array.mem_toList_iff]; exact Array.mem_of_getElem? hc5, rfl⟩
          have hc7 := hrg _ hc6
          k_steps
          · rw [decide_eq_true (show (c5.toNat : Int) ≤ 126 from hc7.2)]; rfl
          · exact LCg.CompEnd.intro F5 N5 _ (fun _ hp => hp) off trivial rfl
        · k_steps
          (rename Fr _ _ _ _ => F13); (rename News _ _ _ _ => N13)
          have hst := enc_steps _ cs [] (-1) (Nat.le_refl _) hv (by simp) (fun _ _ _ => by simp)
          rw [List.nil_append] at hst
          k_dflt refine' ct_seven_text (Sit.use ?B4 ?F4 ?X4 ?T4 ?r4 ?u4) i9 (by omega) hst (by omega) ?_
          case B4 => k_asm
          case F4 => exact F13
          case X4 => k_asm
          case T4 => k_asm
          case r4 => omega
          case u4 => omega
          intro t14 h14 tk14 k14
          have F14 := fr_stays F13 k14
          have N14 := news_stays N13 k14
          k_steps
          exact ret_v (s := s) hret (by simp) (Fr.keep F14)
end

end Mine
set_option maxRecDepth 100000 in
set_option maxHeartbeats 8000000 in
theorem PySem.Challenge.cw_nz0290_01_holds : PySem.Challenge.rw_nz0290_01.Holds := by
  refine Mine.hd ?_
  intro w s₀ s₁ mg mb G Y fa o pm cd doc dV kV ho hd hcd hD hmg hg args vals as hpre hlay hrd hwl hlo
  have KX := kIn_of Y
  refine Ground.open G ?_
  intro T B D TE TW
  wrow_args hpre hlay hrd hwl hlo
  have hfa : fa = 189 := by
    have e1 := mg_of (n := PySem.Str.ofString "law") (v := .ref 189) KX T.g (by kernel_rfl)
    rw [hmg] at e1
    cases e1; rfl
  subst hfa
  rename_i hI _ hcond _
  refine Mine.on_mono (Mine.ct_law (n := 0) (dp := 1 + claimMargin) (un := 4) (gd := some []) (outer := []) (base := s₁.heap) ⟨KX, T, below_caller s₁.heap, by decide, by decide⟩ (by assumption) hI (by omega) (Q := fun v s' => GoodWG PySem.Challenge.rw_nz0290_01.row.claim (classAt s₀.heap) (ExcName.means s₀.heap) _ s₁ (.ok (.ret v)) s') (fun h' tk' k => GoodW.toG ⟨.inl ⟨.bool true, .bool true, [], rfl, ?_, .bool true, ?_, ?_⟩, fun b o e => k b o e, rfl, hg⟩)) (fun _ _ x => x) (fun _ _ x => x.elim)
  · intro cls; rfl
  · wrow_post
  · exact unshared_nil
