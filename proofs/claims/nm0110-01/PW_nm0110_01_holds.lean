import PyProof.Rows.All
import Wide.All
import OpenK.AllK
import Wide.FinOn
import PySem.Challenge.RW_nm0110_01
set_option Elab.async false
set_option compiler.extract_closed false
section
set_option maxRecDepth 100000
open PySem PySem.W PyProof.Rows PySem.Calls PySem.Spec
namespace Mine
noncomputable def okId (id : String) : Bool :=
  !(Builtin.Bytes.decodersThatHold.contains id) && !(["bytearray.__contains__", "bytearray.__mod__", "bytearray.__rmod__", "_struct.pack_into.held", "bytearray.find.held"].contains id)
/-- no decoder -/
noncomputable def okCode : Code → Bool
  | .builtin id _ => okId id
  | _ => true
noncomputable def okSt (l : List (Code × Pos)) : Bool := l.all fun c => okCode c.1
noncomputable def OkC (Γ : PySem.Ctx) : Prop := okCode Γ.code = true ∧ okSt Γ.below = true
section
variable {α β : Type} {M : Model} {A : Around} {E : Value → Shared → Prop} {s : Shared}
/-- as wpAny, of those contexts alone in which no decoder runs -/
noncomputable def wpR {α : Type} (M : Model) (A : Around) (t : Sem α) (Q : α → Shared → Prop) (E : Value → Shared → Prop) (s : Shared) : Prop :=
  ∀ Γ p, Γ.In A → OkC Γ → Sem.wp M Γ t (fun a _ s' => Q a s') (fun e _ s' => E e s') p s
noncomputable def codeR (M : Model) (A : Around) (c : Code) (R : Result → Shared → Prop) (s : Shared) : Prop :=
  okCode c = true ∧ ∀ Γ p, Γ.code = c → Γ.Below A → okSt Γ.below = true → wpCode M Γ R p s
theorem wpR_of {t : Sem α} {Q : α → Shared → Prop} (h : wpAny M A t Q E s) : wpR M A t Q E s := fun Γ p hΓ _ => h Γ p hΓ
theorem codeR_of {c : Code} {R : Result → Shared → Prop} (h : codeAny M A c R s) (hc : okCode c = true) : codeR M A c R s := ⟨hc, fun Γ p e hΓ _ => h Γ p e hΓ⟩
theorem wpR_pure {a : α} {Q : α → Shared → Prop} (h : Q a s) : wpR M A (pure a) Q E s := fun _ _ _ _ => h
theorem wpR_mono {t : Sem α} {Q Q' : α → Shared → Prop} {E' : Value → Shared → Prop} (h : wpR M A t Q E s) (hQ : ∀ a s, Q a s → Q' a s) (hE : ∀ e s, E e s → E' e s) : wpR M A t Q' E' s :=
  fun Γ p hΓ ho => Sem.wp_mono M Γ t (fun a _ s => hQ a s) (fun e _ s => hE e s) p s (h Γ p hΓ ho)
theorem wpR_bind {m : Sem α} {f : α → Sem β} {Q : β → Shared → Prop} (h : wpR M A m (fun a s' => wpR M A (f a) Q E s') E s) : wpR M A (m >>= f) Q E s := fun Γ p hΓ ho => by
  rw [Sem.wp_bind']
  exact Sem.wp_mono M Γ m (fun a p' s' h' => h' Γ p' hΓ ho) (fun _ _ _ h' => h') p s (h Γ p hΓ ho)
/-- a first step that any context takes -/
theorem wpR_step {m : Sem α} {f : α → Sem β} {Q : β → Shared → Prop} (h : wpAny M A m (fun a s' => wpR M A (f a) Q E s') E s) : wpR M A (m >>= f) Q E s := wpR_bind (wpR_of h)
theorem wpR_holding {vs : List Value} {m : Sem α} {Q : α → Shared → Prop} (h : wpR M A m Q E s) : wpR M A (holding vs m) Q E s := fun Γ p hΓ ho => by rw [Sem.wp_holding]; exact h Γ p hΓ ho
theorem wpR_onRaise {m : Sem α} {k : Value → Sem Unit} {Q : α → Shared → Prop} (h : wpR M A m Q (fun e s' => wpAny M A (k e) (fun _ s'' => E e s'') E s') s) : wpR M A (m.onRaise k) Q E s := fun Γ p hΓ ho => by
  rw [Sem.wp_onRaise]
  exact Sem.wp_mono M Γ m (fun _ _ _ h' => h') (fun e p' s' h' => h' Γ p' hΓ) p s (h Γ p hΓ ho)
theorem ok_enter {Γ : PySem.Ctx} (h : OkC Γ) (c : Code) (hd : Option Value) (p : Pos) : okSt (Γ.enter c hd p).below = true := by
  show okSt ((Γ.code, p) :: Γ.below) = true
  unfold okSt at *
  rw [List.all_cons, h.1, show Γ.below.all (fun c => okCode c.1) = true from h.2]; rfl
theorem wpR_run {c : Code} {h : Option Value} {Q : Flow → Shared → Prop} (hc : codeR M (A.mark h) c (fun r s' => match r with | .ok f => Q f s' | .error e => E e s') s) (hnb : h ≠ some byPass := by intro x; cases x) : wpR M A (run c h) Q E s :=
  fun Γ p hΓ ho => by rw [Sem.wp_run]; exact hc.2 _ p rfl (hΓ.enter c h p hnb) (ok_enter ho c h p)
theorem wpR_call {f : Value} {pos : List Value} {kw : List (Str × Value)} {Q : Value → Shared → Prop}
    (hc : codeR M A (.call f ⟨pos, kw⟩) (fun r s' => match r with | .ok (.ret v) => Q v s' | .ok _ => False | .error e => E e s') s) : wpR M A (call f pos kw) Q E s :=
  fun Γ p hΓ ho => by
    show Sem.wp M Γ (runValue (.call f ⟨pos, kw⟩)) _ _ p s
    rw [Sem.wp_runValue]; exact hc.2 _ p rfl (hΓ.enter _ none p (by intro x; cases x)) (ok_enter ho _ none p)
theorem codeR_mono {c : Code} {R R' : Result → Shared → Prop} (h : codeR M A c R s) (hR : ∀ r s, R r s → R' r s) : codeR M A c R' s :=
  ⟨h.1, fun Γ p hc hΓ ho => wpCode_mono hR (h.2 Γ p hc hΓ ho)⟩
theorem codeR_of_tree {c : Code} {R : Result → Shared → Prop} (hk : okCode c = true)
    (h : wpR M (A.under c) (M.den c) (fun fin s' => match fin with | .done f => R (.ok f) s' | .again c' => c'.quiet = true ∧ codeR M A c' R s') (fun e s' => R (.error e) s') s) : codeR M A c R s := ⟨hk, fun Γ p hc hΓ ho => by
  rw [wpCode_iff_wp, hc]
  refine Sem.wp_mono M Γ _ (fun fin p' s' h' => ?_) (fun _ _ _ h' => h') p s (h Γ p (hc ▸ hΓ.in) ⟨hc ▸ hk, ho⟩)
  cases fin with
  | done f => exact h'
  | again c' => exact ⟨h'.1, h'.2.2 (Γ.goto c') p' rfl (hΓ.goto c') ho⟩⟩
theorem codeR_loop {c : Code} {R : Result → Shared → Prop} (hk : okCode c = true) (hq : c.quiet = true) (I : Nat → Shared → Prop)
    (turn : ∀ n s, I n s → wpR M (A.under c) (M.den c)
      (fun fin s' => match fin with | .done f => R (.ok f) s' | .again c' => (c' = c ∧ ∃ m, m < n ∧ I m s') ∨ (c'.quiet = true ∧ codeR M A c' R s')) (fun e s' => R (.error e) s') s)
    (n : Nat) (h : I n s) : codeR M A c R s := by
  induction n using Nat.strongRecOn generalizing s with
  | ind n ih =>
    refine codeR_of_tree hk (wpR_mono (turn n s h) (fun fin s' hf => ?_) fun _ _ h' => h')
    cases fin with
    | done f => exact hf
    | again c' =>
      rcases hf with ⟨rfl, m, hm, hI⟩ | hf
      · exact ⟨hq, ih m hm hI⟩
      · exact hf
end

/-- from a walk under callerA to the run of the thread -/
theorem thread_R {prog : Program} {w : World} {t : Sem Fin} {s : Shared} {R : Result → Shared → Prop} (hreg : s.asleep)
    (h : wpR (model prog w) callerA t (fun fin s' => ∃ f, fin = .done f ∧ (R (.ok f) s' ∧ leftWithCleanup s'.gens = false)) (fun e s' => R (.error e) s' ∧ leftWithCleanup s'.gens = false) s) :
    ∃ n r s' s'', runN (denote table) prog w n s ⟨t, .builtin "claim.caller" {}, default, []⟩ = .halted (outcomeOf r) s' ∧
      schedN (denote table) prog w n (.single s ⟨t, .builtin "claim.caller" {}, default, []⟩) = .halted (outcomeOf r) s' ∧ s'.forget = s''.forget ∧ R r s'' := by
  have h0 := h ⟨.builtin "claim.caller" {}, none, none, [], none⟩ default caller_in ⟨by decide +kernel, rfl⟩
  obtain ⟨n, r, s₁, s₂, hs, hn, hfo, hR⟩ := wp_halts_full (M := model prog w) (R := R) hreg (Sem.wp_mono _ _ _ (fun fin p' s' h' => by
    obtain ⟨f, rfl, hf⟩ := h'
    exact hf) (fun _ _ _ h' => h') _ _ h0)
  exact ⟨n, r, s₂, s₁, hn, hs, hfo, hR⟩

theorem callFrom_R {c : ClaimW} {tree : List Value → Sem Fin} {w : World} {s : Shared} {free : Addr → Prop} {gens : Prop} {kept : Heap → Prop} (hz : s.asleep) (hgens : s.gens = #[])
    (hspec : ∀ args, c.pre args = true → WData.layableAll args = true → ∀ ord : List DictEntry → List DictEntry, (∀ l, (ord l).Perm l) →
      ∃ vs s₁, layAllW c.records (classAt s.heap) w.params ord args s = some (vs, s₁) ∧
        wpR (model c.prog w) callerA (tree vs) (fun fin s' => ∃ f, fin = .done f ∧ (c.Ends s args vs s₁ (.ok f) s' ∧ s'.os = s.os ∧ AllBare s'.gens ∧ kept s'.heap))
          (fun e s' => c.Ends s args vs s₁ (.error e) s' ∧ s'.os = s.os ∧ AllBare s'.gens ∧ kept s'.heap) s₁) :
    c.CallFrom (fun vs => ⟨tree vs, .builtin "claim.caller" {}, default, []⟩) w free gens kept s := fun args hpre hlay ord hord => by
  obtain ⟨vs, s₁, hl, hwalk⟩ := hspec args hpre hlay ord hord
  have hr := layAllW_rest _ _ _ hl
  have hw2 := wpR_mono (Q' := fun fin s' => ∃ f, fin = .done f ∧ ((c.Ends s args vs s₁ (.ok f) s' ∧ s'.os = s.os ∧ kept s'.heap) ∧ leftWithCleanup s'.gens = false))
    (E' := fun e s' => (c.Ends s args vs s₁ (.error e) s' ∧ s'.os = s.os ∧ kept s'.heap) ∧ leftWithCleanup s'.gens = false) hwalk
    (fun fin s' ⟨f, e, a, b, d, g⟩ => ⟨f, e, ⟨a, b, g⟩, leftWithCleanup_false_of_bare d⟩) (fun e s' ⟨a, b, d, g⟩ => ⟨⟨a, b, g⟩, leftWithCleanup_false_of_bare d⟩)
  obtain ⟨k, r, s', s'', hrun, hsched, hforget, hends, hos, hkept⟩ := thread_R (R := fun r s' => c.Ends s args vs s₁ r s' ∧ s'.os = s.os ∧ kept s'.heap) (Shared.asleep_of_life hr.2.2.2 hz) hw2
  obtain ⟨eh, _, _, eo, _⟩ := Shared.forget_eq hforget
  have hends' := hends.congr eh
  have hkept' : kept s'.heap := by rw [eh]; exact hkept
  have hos' : s'.os = s.os := by rw [eo]; exact hos
  refine ⟨vs, s₁, hl, k, outcomeOf r, s', hsched, ?_, fun _ i x hx => by rw [hgens] at hx; simp at hx, hkept', by rw [(runN_life _ _ _ hrun).trans hr.2.2.2], Shared.rest_eq hos'⟩
  rcases hends' with ⟨v, rfl, d1, d2, d3, d4, d5⟩ | ⟨e, ob, cls, rfl, d1, d2, d3, d4, d5⟩
  · exact .inl ⟨v, rfl, d1, d2, d3, fun b o y _ => d4 b o y, d5⟩
  · exact .inr ⟨e, ob, cls, rfl, d1, d2, d3, d4, fun b o y _ => d5 b o y⟩

/-- the walk that our head asks for -/
abbrev WalkR (q : Program) (loose : List Str) (XP : (Str → Option Value) → Heap → Prop) (YP : World → Heap → Prop) (r : RowW) (d : DefRec) (kwd : List (Str × Expr)) : Prop :=
  ∀ (w : World) (s₀ s₁ : Shared) (mg mb : Str → Option Value), Ground q loose r.records XP w s₀ mg mb s₁.heap → YP w s₁.heap → ∀ (a : Addr) (o : Obj) (pm cd doc dV kV : Value), s₁.heap.get? a = some o →
    o.data = .func { docDef d.name d.params d.body d.scope pm cd doc with defaults := dV, kwdefaults := kV } → s₁.heap.CodeRec cd d.name → Dflts mg s₁.heap d.params kwd dV kV → mg d.name = some (.ref a) → s₁.gens = #[] →
    ∀ (args : List WData) (vals : List Value) (as : List Addr), r.claim.pre args = true → WData.layableAll args = true → ReadsAllW r.records (classAt s₀.heap) s₁.heap vals args as → WellAll w.params s₁.heap vals args → (∀ a ∈ as, (a == sysModules) = false) →
      wpR (model r.prog w) callerA (PySem.call (.ref a) vals) (fun v s' => GoodWG r.claim (classAt s₀.heap) (ExcName.means s₀.heap) args s₁ (.ok (.ret v)) s')
        (fun e s' => GoodWG r.claim (classAt s₀.heap) (ExcName.means s₀.heap) args s₁ (.error e) s') s₁

theorem PySem.W.holds_open {r : OpenRow} {q : Program} {loose : List Str} {Xt : Shared → Bool} {XP : (Str → Option Value) → Heap → Prop} {α : Type} {Yf : Shared → α} {Ya : World → α} {YP : World → Heap → Prop} {d : DefRec} {kwd : List (Str × Expr)} {N : Nat}
    (left : LeftO r.prog q loose Xt Yf Ya N) (hY : ∀ w s, Yf s = Ya w → YP w s.heap) (hYk : ∀ w h h', YP w h → (∀ b o, h.get? b = some o → h'.get? b = some o) → YP w h')
    (hX : ∀ s, Xt s = true → XP (s.heap.nsMap mainGlobals) s.heap) (hXk : ∀ mg h h', XP mg h → (∀ b o, h.get? b = some o → h'.get? b = some o) → XP mg h')
    (hdef : defOf q r.name = some (d, kwd)) (hp : r.prog.theDef r.name = some (d.params, d.body, d.scope)) (hk : kwWritten? d.params.kwonlyargs d.params.kw_defaults = some kwd) (hRf : ∀ s, Xt s = true → RecFacts r.records s.heap) (hwr : (!r.writes || r.records.isEmpty) = true)
    (k1 : r.wellSaid = true) (ok : (chainsOk q && opensWell r.prog && (frees r.toRowW && r.within.isEmpty)) = true) (hb : r.prog.bare) (hw : r.toRowW.promised)
    (walk : WalkR q loose XP YP r.toRowW d kwd) : r.Holds := by
  simp only [Bool.and_eq_true] at ok
  obtain ⟨⟨hch, o1⟩, k5, k6⟩ := ok
  obtain ⟨hsame, hu, ha, hap, hm⟩ := frees_parts k5
  have hwi : r.toRowW.claim.within = [] := List.isEmpty_iff.mp k6
  have hi := ident_freeW hu ha hap
  refine ⟨k1, hw, ⟨hb, o1, by show r.makers.map _ = []; rw [hm]; rfl⟩, hw.witness, fun w => ⟨(left.behind hX hch w).1, fun s' hs' => ?_⟩⟩
  obtain ⟨s₀, hf, hg0, s, hT, hz, hgens, hg, G0, y⟩ := (left.behind (XP := fun mg h => XP mg h ∧ RecFacts r.records h) (fun s hs => ⟨hX s hs, hRf s hs⟩) hch w).2 s' hs'
  obtain ⟨G1, G2, G3, G4, G5, G6, ⟨G7, RF⟩, G8, G9, G10, G11, G12⟩ := G0
  have GB : Ground q loose [] XP w s (s.heap.nsMap mainGlobals) (s.heap.nsMap builtinsNs) s.heap := ⟨G1, G2, G3, G4, G5, G6, G7, G8, G9, G10, G11, G12⟩
  have hgens : s.gens = #[] := Array.eq_empty_of_size_eq_zero (beq_iff_eq.mp hgens)
  have G : Ground q loose r.records XP w s (s.heap.nsMap mainGlobals) (s.heap.nsMap builtinsNs) s.heap := RF.ground GB
  refine ⟨s₀, hf, hg0, s, hT, fun n hn => ?_, RF.1, RF.2.1, callFrom_R (c := r.toRowW.claim) hz hgens fun args hpre hlay ord hord => ?_⟩
  · obtain rfl : n = r.name := by split at hn <;> simp_all
    exact pinned_of_view hg GB hdef hp hk
  obtain ⟨⟨vs, s₁⟩, hl⟩ := Option.isSome_iff_exists.mp (layAllW_isSome (P := w.params) (ord := ord) G.has args r.args s (pre_splitW hpre).1)
  have keeps := layAllW_keeps _ _ _ hl
  have hr := layAllW_rest _ _ _ hl
  obtain ⟨as, hrd, hin, hold⟩ := reads_layAllW hord _ _ _ hl hlay s₁.heap (fun _ _ e => e)
  have L : Laid r.records w s s₁ args vs as := ⟨⟨ord, hord, hl⟩, hrd, hin, hold, keeps, hr.1.trans hgens, hr.2.2.1⟩
  have G₁ := G.keeps hXk keeps
  obtain ⟨a, o, pm, cd, doc, dV, kV, h1, h2, h3, h4, h5⟩ := G₁.fn hdef
  have main := walk w s s₁ _ _ G₁ (hYk _ _ _ (hY w s y) keeps) a o pm cd doc dV kV h2 h3 h4 h5 (defOf_name hdef ▸ h1) L.gens args vs as hpre hlay L.reads L.well (L.low G.low)
  refine ⟨vs, s₁, hl, ?_⟩
  show wpR _ _ (nsGet mainNs r.name >>= _) _ _ _
  refine wpR_step (wpAny_nsGet G₁.T.g ?_)
  rw [h1]
  refine wpR_bind (wpR_mono main (fun v s2 g => ?_) fun e s2 g => ?_)
  · have z := g.laid (c := r.toRowW.claim) hsame hwi hi L
    exact wpR_pure ⟨_, rfl, z.1, z.2.1, z.2.2, fun q => ⟨namesKept_of hT hg _ keeps g.2.1.old, noTable hwr q⟩⟩
  · have z := g.laid (c := r.toRowW.claim) hsame hwi hi L
    exact ⟨z.1, z.2.1, z.2.2, fun q => ⟨namesKept_of hT hg _ keeps g.2.1.old, noTable hwr q⟩⟩
end Mine
end
section
open PySem PySem.W PyProof.Rows PySem.Calls
namespace Mine
set_option maxRecDepth 100000 in
set_option maxHeartbeats 8000000 in
open_top hd for PySem.Challenge.rw_nm0110_01
end Mine
end
section
open PySem PySem.W PyProof.Rows PySem.Calls
namespace Mine
open PySem PySem.W PyProof.Rows PySem.Calls

/-- what stood stands -/
abbrev Kp (h h' : Heap) : Prop := ∀ b o, h.get? b = some o → h'.get? b = some o

section
variable {prog : Program} {w : World} {A₀ : Around} {E Q : Value → Shared → Prop} {s : Shared} {base h₀ : Heap} {outer : List Env} {L : Addr} {m : Str → Option Value} {K : Frag}
  {p : Program} {loose : List Str} {mean : ExcName → Option Value} {mg mb : Str → Option Value}
  {dp un : Nat} {gd : Option (List Code)} {cn : Str} {cs : Scope} {a : Addr} {ccd : Value} {cl : List (Str × Addr)}
  {name qual : Str} {params : Arguments} {body : List Stmt} {scope : Scope} {dV kV doc pm cdv ct oc : Value} {an od : Option Addr} {osl : Array (Option Value)} {f : Addr} {args : List Value} {binds : List (Str × Value)}

theorem enter_of (B : Below A₀ base outer h₀) (F : Fr h₀ L s.heap m) (X : K.In h₀) (T : Top p loose mean mg mb h₀) (hk : cs.kind = .function)
    (ho : K.lookup f = some ⟨oc, od, .func (fnOf name qual params body scope dV kV doc pm an cdv ct), osl⟩) (hcd : codeIn K cdv qual = true) (hroom : dp < recursionLimit)
    (hbind : BindsTo s (fnOf name qual params body scope dV kV doc pm an cdv ct) ⟨args, []⟩ binds) (hloc : ∀ y ∈ binds, scope.names.lookup y.1 = some .local)
    (h : ∀ h₁, Fr s.heap s.heap.objs.size h₁ (fun y => binds.reverse.lookup y) → News s.heap s.heap.objs.size h₁ [] →
      Below (ktrTop dp un gd cn cs L a ccd cl outer) base (envX cn cs L a ccd cl :: outer) s.heap → K.In s.heap → Top p loose mean mg mb s.heap →
      wpAny (model prog w) ((ktrTop dp un gd cn cs L a ccd cl outer).deeper (envOf qual scope s.heap.objs.size f cdv)) (execs body (envOf qual scope s.heap.objs.size f cdv))
        (fun fl s' => Q (match fl with | .ret v => v | _ => .none) s')
        (fun e s' => wpAny (model prog w) ((ktrTop dp un gd cn cs L a ccd cl outer).deeper (envOf qual scope s.heap.objs.size f cdv)) (leaving (envOf qual scope s.heap.objs.size f cdv) e)
          (fun _ s'' => E e s'') (fun e' s'' => E e' s'') s')
        { s with heap := h₁, toks := s.toks + binds.length })
    (hco : scope.isCoroutine = false := by rfl) (hgen : scope.isGenerator = false := by rfl) (hsk : scope.kind = .function := by rfl)
    (hcell : ∀ x ∈ scope.names, x.2 ≠ .cell := by decide) :
    wpAny (model prog w) (ktrTop dp un gd cn cs L a ccd cl outer) (call (.ref f) args) Q E s := by
  have B₁ : Below ((ktrTop dp un gd cn cs L a ccd cl outer)) base (envX cn cs L a ccd cl :: outer) s.heap := by
    have B₂ := pushX (env := envX cn cs L a ccd cl) B F rfl hk
    exact ⟨rfl, B₂.stays, B₂.frames⟩
  refine wpAny_call (codeAny_call_def (fd := fnOf name qual params body scope dV kV doc pm an cdv ct) (body := body) (binds := binds) hroom ((X.keeps F.keep) _ _ ho) rfl (T.nolimit.keeps F.keep)
    (codeRec_of (X.keeps F.keep) hcd) rfl hbind hcell hloc (fun h₁ hns hk₁ => ?_) hco hgen hsk)
  exact h h₁ ⟨hns, hk₁, Nat.le_refl _⟩ News.nil B₁ (X.keeps F.keep) (T.keeps F.keep)
theorem enter_ofC (B : Below A₀ base outer h₀) (F : Fr h₀ L s.heap m) (X : K.In h₀) (T : Top p loose mean mg mb h₀) (hk : cs.kind = .function)
    (ho : K.lookup f = some ⟨oc, od, .func (fnOf name qual params body scope dV kV doc pm an cdv ct), osl⟩) (hcd : codeIn K cdv qual = true) (hroom : dp < recursionLimit)
    (hbind : BindsTo s (fnOf name qual params body scope dV kV doc pm an cdv ct) ⟨args, []⟩ binds) (hkind : (binds.all fun y => scope.names.lookup y.1 == some .local || scope.names.lookup y.1 == some .cell) = true)
    (hnd : ((cellsFrom 0 scope.names []).map (·.1)).Nodup)
    (h : ∀ h₁ tk cells, Fr s.heap s.heap.objs.size h₁ (bindL (envOfC qual scope s.heap.objs.size f cdv).kindOf binds fun _ => none) → News s.heap s.heap.objs.size h₁ cells →
      CellsAre (bindC (envOfC qual scope s.heap.objs.size f cdv).kindOf binds fun _ => none) (cellsFrom (s.heap.objs.size + 1) scope.names []) cells →
      Below (ktrTop dp un gd cn cs L a ccd cl outer) base (envX cn cs L a ccd cl :: outer) s.heap → K.In s.heap → Top p loose mean mg mb s.heap →
      wpAny (model prog w) ((ktrTop dp un gd cn cs L a ccd cl outer).deeper (envOfC qual scope s.heap.objs.size f cdv)) (execs body (envOfC qual scope s.heap.objs.size f cdv))
        (fun fl s' => Q (match fl with | .ret v => v | _ => .none) s')
        (fun e s' => wpAny (model prog w) ((ktrTop dp un gd cn cs L a ccd cl outer).deeper (envOfC qual scope s.heap.objs.size f cdv)) (leaving (envOfC qual scope s.heap.objs.size f cdv) e)
          (fun _ s'' => E e s'') (fun e' s'' => E e' s'') s')
        { s with heap := h₁, toks := tk })
    (hco : scope.isCoroutine = false := by rfl) (hgen : scope.isGenerator = false := by rfl) (hsk : scope.kind = .function := by rfl) :
    wpAny (model prog w) (ktrTop dp un gd cn cs L a ccd cl outer) (call (.ref f) args) Q E s := by
  have B₁ : Below ((ktrTop dp un gd cn cs L a ccd cl outer)) base (envX cn cs L a ccd cl :: outer) s.heap := by
    have B₂ := pushX (env := envX cn cs L a ccd cl) B F rfl hk
    exact ⟨rfl, B₂.stays, B₂.frames⟩
  refine wpAny_call (codeAny_call_function (fd := fnOf name qual params body scope dV kV doc pm an cdv ct) hroom ((X.keeps F.keep) _ _ ho) rfl hco hgen rfl (codeRec_of (X.keeps F.keep) hcd) (hbind _ _ _ _ ?_))
  refine wpAny_newFunctionEnv_cells hsk (kindsX hkind _) fun env' he s' x => ?_
  subst he
  refine ⟨((T.nolimit.keeps F.keep)).keeps x.toInCall.keep, codeAny_func ?_⟩
  obtain ⟨h₁, tk, rfl, _⟩ := x.done
  have hk₁ := x.toInCall.keep
  obtain ⟨cells, NC, Y⟩ := Cl.news (h₀ := s.heap) (Nat.le_refl _) fun n c hm => ⟨x.cell n c (lookup_of_mem_nodup (cellsFrom_names scope.names 0 (s.heap.objs.size + 1) [] [] rfl ▸ hnd) hm), x.above n c hm⟩
  exact h h₁ tk cells ⟨x.toInCall.ns, hk₁, Nat.le_refl _⟩ NC Y B₁ (X.keeps F.keep) (T.keeps F.keep)
end
noncomputable abbrev PR : Program := PySem.Challenge.rw_nm0110_01.row.prog
noncomputable abbrev VW : Program := Mine.hd.view_39
noncomputable abbrev LO : List Str := looseW Mine.hd.view_39 [Str.ofString "text_of"]

/-- a def of the text gives back P, and all that stood stands -/
noncomputable def Gives (w : World) (mean : ExcName → Option Value) (mg mb : Str → Option Value) (f : Addr) (vs : List Value) (s : Shared) (D U : Nat) (P : Value → Heap → Prop) : Prop :=
  ∀ (dp un : Nat) (gd : Option (List Code)) (cn : Str) (cs : Scope) (a : Addr) (ccd : Value) (cl : List (Str × Addr)) (outer : List Env) (A₀ : Around) (base h₀ : Heap) (L : Addr) (m : Str → Option Value) (Q E : Value → Shared → Prop),
    Below A₀ base outer h₀ → Fr h₀ L s.heap m → (Mine.hd.heap_39 w.params).In h₀ → Top VW LO mean mg mb h₀ → cs.kind = .function → dp + D < recursionLimit → un + U < cLine →
    (∀ r h' tk, Kp s.heap h' → P r h' → Q r { s with heap := h', toks := tk }) →
    wpAny (model PR w) (ktrTop dp un gd cn cs L a ccd cl outer) (call (.ref f) vs) Q E s

theorem gives_use {w : World} {mean : ExcName → Option Value} {mg mb : Str → Option Value} {f : Addr} {vs : List Value} {s : Shared} {D U : Nat} {P : Value → Heap → Prop}
    {dp un : Nat} {gd : Option (List Code)} {cn : Str} {cs : Scope} {a : Addr} {ccd : Value} {cl : List (Str × Addr)} {outer : List Env} {A₀ : Around} {base h₀ : Heap} {L : Addr} {m : Str → Option Value} {Q E : Value → Shared → Prop} {news : List (Addr × Obj)}
    (G : Gives w mean mg mb f vs s D U P) (B : Below A₀ base outer h₀) (F : Fr h₀ L s.heap m) (X : (Mine.hd.heap_39 w.params).In h₀) (T : Top VW LO mean mg mb h₀) (N : News h₀ L s.heap news) (hk : cs.kind = .function)
    (hd : dp + D < recursionLimit) (hu : un + U < cLine)
    (h : ∀ r h' tk, Fr h₀ L h' m → News h₀ L h' news → Kp s.heap h' → P r h' → Q r { s with heap := h', toks := tk }) :
    wpAny (model PR w) (ktrTop dp un gd cn cs L a ccd cl outer) (call (.ref f) vs) Q E s :=
  G dp un gd cn cs a ccd cl outer A₀ base h₀ L m Q E B F X T hk hd hu fun r h' tk k p => h r h' tk (F.keeps k) (N.grown k) k p

theorem ex_int {x y : Int} {t : Tok} (e : y = x) : ∃ t', Value.int y t = Value.int x t' := ⟨t, by rw [e]⟩
theorem ex_bool {x y : Bool} (e : y = x) : Value.bool y = Value.bool x := by rw [e]
theorem ex_str {x y : Str} {t : Tok} (e : y = x) : ∃ t', Value.str y t = Value.str x t' := ⟨t, by rw [e]⟩
/-- a list of ints on the heap -/
noncomputable def IntsIn (h : Heap) (l : Addr) (ns : List Int) : Prop := ∃ vs, h.IsList l vs.toArray ∧ IntsAre vs ns
theorem IntsIn.keeps {h h' : Heap} {l : Addr} {ns : List Int} (x : IntsIn h l ns) (k : Kp h h') : IntsIn h' l ns :=
  let ⟨vs, hl, hi⟩ := x; ⟨vs, hl.at fun o e => k _ _ e, hi⟩
/-- a pair of ints -/
noncomputable def PairAt (h : Heap) (v : Value) (p : Int × Int) : Prop := ∃ t a b, v = .ref t ∧ IsTup h t [.int p.1 a, .int p.2 b].toArray
theorem PairAt.keeps {h h' : Heap} {v : Value} {p : Int × Int} (x : PairAt h v p) (k : Kp h h') : PairAt h' v p :=
  let ⟨t, a, b, e, ht⟩ := x; ⟨t, a, b, e, IsTup.keeps ht k⟩
inductive All2 {α : Type} (R : Value → α → Prop) : List Value → List α → Prop
  | nil : All2 R [] []
  | cons {v : Value} {a : α} {vs : List Value} {as : List α} : R v a → All2 R vs as → All2 R (v :: vs) (a :: as)
theorem All2.mono {α : Type} {R R' : Value → α → Prop} (h : ∀ v a, R v a → R' v a) {vs : List Value} {as : List α} (x : All2 R vs as) : All2 R' vs as := by
  induction x with
  | nil => exact .nil
  | cons r _ ih => exact .cons (h _ _ r) ih
theorem All2.snoc {α : Type} {R : Value → α → Prop} {vs : List Value} {as : List α} {v : Value} {a : α} (x : All2 R vs as) (r : R v a) : All2 R (vs ++ [v]) (as ++ [a]) := by
  induction x with
  | nil => exact .cons r .nil
  | cons r' _ ih => exact .cons r' ih
theorem All2.length {α : Type} {R : Value → α → Prop} {vs : List Value} {as : List α} (x : All2 R vs as) : vs.length = as.length := by
  induction x with
  | nil => rfl
  | cons _ _ ih => simp [ih]
theorem All2.get {α : Type} {R : Value → α → Prop} {vs : List Value} {as : List α} (x : All2 R vs as) : ∀ {i : Nat} {a : α}, as[i]? = some a → ∃ v, vs[i]? = some v ∧ R v a := by
  induction x with
  | nil => intro i a h; simp at h
  | cons r _ ih =>
    intro i a h
    cases i with
    | zero => simp at h; subst h; exact ⟨_, rfl, r⟩
    | succ i => simp at h; obtain ⟨v, e, rv⟩ := ih h; exact ⟨v, by simpa using e, rv⟩
noncomputable def LetsAt (h : Heap) (l : Addr) (lets : List (Int × Int)) : Prop := ∃ vs, h.IsList l vs.toArray ∧ All2 (PairAt h) vs lets
theorem LetsAt.keeps {h h' : Heap} {l : Addr} {lets : List (Int × Int)} (x : LetsAt h l lets) (k : Kp h h') : LetsAt h' l lets :=
  let ⟨vs, hl, hp⟩ := x; ⟨vs, hl.at fun o e => k _ _ e, hp.mono fun _ _ y => y.keeps k⟩
noncomputable def RowAt (h : Heap) (v : Value) (row : Int × List (Int × Int)) : Prop := ∃ t a l, v = .ref t ∧ IsTup h t [.int row.1 a, .ref l].toArray ∧ LetsAt h l row.2
theorem RowAt.keeps {h h' : Heap} {v : Value} {row : Int × List (Int × Int)} (x : RowAt h v row) (k : Kp h h') : RowAt h' v row :=
  let ⟨t, a, l, e, ht, hl⟩ := x; ⟨t, a, l, e, IsTup.keeps ht k, hl.keeps k⟩
noncomputable def RowsAt (h : Heap) (l : Addr) (rows : List (Int × List (Int × Int))) : Prop := ∃ vs, h.IsList l vs.toArray ∧ All2 (RowAt h) vs rows
theorem RowsAt.keeps {h h' : Heap} {l : Addr} {rows : List (Int × List (Int × Int))} (x : RowsAt h l rows) (k : Kp h h') : RowsAt h' l rows :=
  let ⟨vs, hl, hp⟩ := x; ⟨vs, hl.at fun o e => k _ _ e, hp.mono fun _ _ y => y.keeps k⟩
noncomputable def tailP : Int × Int := (128, 192)
noncomputable def ROWS : List (Int × List (Int × Int)) :=
  [(0, [(0, 128)]), (128, [(194, 224), tailP]), (2048, [(224, 225), (160, 192), tailP]), (4096, [(225, 237), tailP, tailP]), (53248, [(237, 238), (128, 160), tailP]), (57344, [(238, 240), tailP, tailP]),
   (65536, [(240, 241), (144, 192), tailP, tailP]), (262144, [(241, 244), tailP, tailP, tailP]), (1048576, [(244, 245), (128, 144), tailP, tailP])]
theorem tupOf {h₀ h : Heap} {L a : Addr} {news : List (Addr × Obj)} {items : Array Value} {n : Nat} (N : News h₀ L h news) (hm : (a, ({ cls := .type "tuple", data := .seq items n } : Obj)) ∈ news) : IsTup h a items := ⟨_, N.get hm, rfl, n, rfl⟩
theorem lstOf {h₀ h : Heap} {L a : Addr} {news : List (Addr × Obj)} {items : Array Value} {n : Nat} (N : News h₀ L h news) (hm : (a, ({ cls := .type "list", data := .seq items n } : Obj)) ∈ news) : h.IsList a items := ⟨_, N.get hm, rfl, n, rfl⟩
end Mine
end
section
open PySem PySem.W PyProof.Rows PySem.Calls
set_option maxRecDepth 100000
namespace Mine
section
variable {prog : Program} {w : World} {A : Around} {E : Value → Shared → Prop} {s : Shared}
theorem wpR_ite {α : Type} {M : Model} {c : Bool} {a b : Sem α} {Q : α → Shared → Prop} (h1 : c = true → wpR M A a Q E s) (h2 : c = false → wpR M A b Q E s) : wpR M A (if c = true then a else b) Q E s := by
  cases c with
  | true => exact h1 rfl
  | false => exact h2 rfl
theorem ok_ne {id lit : String} (h : okId id = true) (hl : okId lit = false) : id ≠ lit := fun e => by rw [e, hl] at h; cases h
theorem ok_dec {id : String} (h : okId id = true) : Builtin.Bytes.decodersThatHold.contains id = false := by
  unfold okId at h
  rw [Bool.and_eq_true, Bool.not_eq_true'] at h
  exact h.1
theorem wpR_exported {M : Model} {self : Value} {Q : Bool → Shared → Prop} (h : Q false s) : wpR M A (Builtin.Bytes.exported self) Q E s := fun Γ p _ ho => by
  unfold Builtin.Bytes.exported
  rw [Sem.wp_bind']
  unfold stack
  rw [Sem.wp_stack]
  have hl : okSt ((Γ.code, p) :: Γ.below) = true := by unfold okSt; rw [List.all_cons, ho.1]; exact ho.2
  refine cast (congrArg (fun b => Q b s) (Eq.symm (?zz : List.any ((Γ.code, p) :: Γ.below) _ = false))) h
  rw [List.any_eq_false]
  intro c hc
  have h := List.all_eq_true.mp hl c hc
  rw [Bool.not_eq_true]
  clear hl hc ho
  obtain ⟨c, q⟩ := c
  cases c
  case builtin id args =>
    replace h : okId id = true := h
    delta Builtin.Bytes.exported.match_1
    dsimp only
    refine (dif_neg (ok_ne (lit := "bytearray.__contains__") h (by decide +kernel))).trans ?_
    refine (dif_neg (ok_ne (lit := "bytearray.__mod__") h (by decide +kernel))).trans ?_
    refine (dif_neg (ok_ne (lit := "bytearray.__rmod__") h (by decide +kernel))).trans ?_
    refine (dif_neg (ok_ne (lit := "_struct.pack_into.held") h (by decide +kernel))).trans ?_
    refine (dif_neg (ok_ne (lit := "bytearray.find.held") h (by decide +kernel))).trans ?_
    obtain ⟨l, kw⟩ := args
    cases l with
    | nil => rfl
    | cons v r =>
      show (Builtin.Bytes.sameRef v self && _) = false
      rw [ok_dec h, Bool.and_false]
  all_goals rfl
noncomputable def ba (b : Array UInt8) : Obj := { cls := .type "bytearray", data := .bytearray b }
theorem wpR_checkResize {M : Model} {a : Addr} {b : Array UInt8} {Q : Unit → Shared → Prop} (ho : s.heap.get? a = some (ba b)) (h : Q () s) : wpR M A (Builtin.Bytes.checkResize (.ref a)) Q E s := by
  unfold Builtin.Bytes.checkResize
  refine wpR_bind ?_
  refine wpR_bind (wpR_exported ?_)
  refine wpR_bind (wpR_bind ?_)
  refine wpR_of ?_
  refine wpAny_load ho ?_
  dsimp only [ba]
  refine wpR_pure ?_
  refine wpR_pure ?_
  refine wpR_pure ?_
  exact h

theorem wpAny_write {M : Model} {a : Addr} {b : Array UInt8} {f : Array UInt8 → Array UInt8} {Q : Unit → Shared → Prop} (ho : s.heap.get? a = some (ba b)) (hz : (f b).size ≤ sizeLine)
    (h : ∀ h', h'.get? a = some (ba (f b)) → Heap.SameBut a s.heap h' → Q () { s with heap := h' }) : wpAny M A (Builtin.Bytes.write (.ref a) f) Q E s := by
  show wpAny _ _ (updateBytearray a f) _ _ _
  unfold updateBytearray
  refine wpAny_bind (wpAny_load ho ?_)
  show wpAny _ _ (update a (Obj.mapBytearray f) >>= fun _ => lookBehind a) _ _ _
  refine wpAny_bind (wpAny_update ho ?_)
  have h2 : (s.heap.update a (Obj.mapBytearray f)).get? a = some (ba (f b)) := Heap.get?_update_self (Obj.mapBytearray f) ho rfl
  refine wpAny_lookBehind h2 ?_ ?_
  · show (if (f b).size > sizeLine then some "bytearray:memory" else none) = none
    rw [if_neg (by omega)]
  · exact h _ h2 (Heap.SameBut.update ..)
end
namespace F
theorem ba_slot_init : Slot "bytearray" "__init__" "bytearray.__init__" :=
  .of (owner := "bytearray") (n := "__init__") (by rw [typeLookup_type, builtinLookup_eq_fast]; kernel_rfl) (by decide +kernel) (by decide +kernel) (by decide +kernel)
    (by first | exact .inl (by decide +kernel) | exact .inr (by decide +kernel)) (by rw [isSubtype_type]; kernel_rfl)
theorem ba_slot_append : Slot "bytearray" "append" "bytearray.append" :=
  .of (owner := "bytearray") (n := "append") (by rw [typeLookup_type, builtinLookup_eq_fast]; kernel_rfl) (by decide +kernel) (by decide +kernel) (by decide +kernel)
    (by first | exact .inl (by decide +kernel) | exact .inr (by decide +kernel)) (by rw [isSubtype_type]; kernel_rfl)
theorem ba_slot_extend : Slot "bytearray" "extend" "bytearray.extend" :=
  .of (owner := "bytearray") (n := "extend") (by rw [typeLookup_type, builtinLookup_eq_fast]; kernel_rfl) (by decide +kernel) (by decide +kernel) (by decide +kernel)
    (by first | exact .inl (by decide +kernel) | exact .inr (by decide +kernel)) (by rw [isSubtype_type]; kernel_rfl)
theorem ba_entry_init : entryFor table "bytearray.__init__" = some Builtin.«bytearray.__init__» := by first | exact entryFor_of_fast (by kernel_rfl) | exact entryFor_of_tree (by kernel_rfl)
theorem ba_entry_append : entryFor table "bytearray.append" = some Builtin.«bytearray.append» := by first | exact entryFor_of_fast (by kernel_rfl) | exact entryFor_of_tree (by kernel_rfl)
theorem ba_entry_extend : entryFor table "bytearray.extend" = some Builtin.«bytearray.extend» := by first | exact entryFor_of_fast (by kernel_rfl) | exact entryFor_of_tree (by kernel_rfl)
theorem ba_entry_loop : entryFor table "bytearray.extend.loop" = some Builtin.«bytearray.extend.loop» := by first | exact entryFor_of_fast (by kernel_rfl) | exact entryFor_of_tree (by kernel_rfl)
theorem ba_entry_end : entryFor table "bytearray.extend.end" = some Builtin.«bytearray.extend.end» := by first | exact entryFor_of_fast (by kernel_rfl) | exact entryFor_of_tree (by kernel_rfl)
theorem ba_entry_new : entryFor table "bytearray.__new__" = some Builtin.«list.__new__» := entryFor_alias (id' := "list.__new__") (by kernel_rfl) rfl (by decide +kernel) (by kernel_rfl)
theorem ba_plain_append : plainId "bytearray.append" = true := by decide +kernel
theorem ba_plain_extend : plainId "bytearray.extend" = true := by decide +kernel
theorem ba_plain_loop : plainId "bytearray.extend.loop" = true := by decide +kernel
theorem ba_plain_end : plainId "bytearray.extend.end" = true := by decide +kernel
theorem ba_plain_init : plainId "bytearray.__init__" = true := by decide +kernel
theorem ba_plain_new : plainId "bytearray.__new__" = true := by decide +kernel
theorem ba_args_append (a b : Value) : argsOk "bytearray.append" ⟨[a, b], []⟩ := by unfold argsOk; kernel_rfl
theorem ba_args_extend (a b : Value) : argsOk "bytearray.extend" ⟨[a, b], []⟩ := by unfold argsOk; kernel_rfl
theorem ba_args_init (a : Value) : argsOk "bytearray.__init__" ⟨[a], []⟩ := by unfold argsOk; kernel_rfl
theorem ba_newCall : checkBuiltinCall "bytearray.__new__" ⟨[.type "bytearray"], []⟩ = pure () := by kernel_rfl
theorem ba_typeCall : checkTypeCall "bytearray" ⟨[], []⟩ = pure () := by kernel_rfl
theorem ba_mro : mroOf (.type "bytearray") = pure [.type "bytearray", .type "object"] := by rw [mroOf_type]; kernel_rfl
theorem ba_lookup_new : typeLookup (.type "bytearray") "__new__" = pure (some (.builtin "bytearray.__new__")) := by rw [typeLookup_type, builtinLookup_eq_fast]; kernel_rfl
theorem ba_called : TypeCalled "bytearray" "bytearray.__new__" "bytearray.__init__" :=
  ⟨by decide +kernel, by decide +kernel, ⟨_, _, ba_mro⟩, madeBy_type ba_mro ba_lookup_new (by decide +kernel), by decide +kernel, by rw [isSubtype_type]; kernel_rfl, ba_slot_init⟩
theorem ba_meth_append : typeOf (.builtin "bytearray.append") = pure (.type "method_descriptor") := by kernel_rfl
theorem ba_meth_extend : typeOf (.builtin "bytearray.extend") = pure (.type "method_descriptor") := by kernel_rfl
theorem ba_no_bytes : typeLookup (.type "bytearray") "__bytes__" = pure none := by rw [typeLookup_type, builtinLookup_eq_fast]; kernel_rfl
theorem ba_no_index : typeLookup (.type "bytearray") "__index__" = pure none := by rw [typeLookup_type, builtinLookup_eq_fast]; kernel_rfl
theorem ba_buffer : typeLookup (.type "bytearray") "__buffer__" = pure (some (.builtin "bytearray.__buffer__")) := by rw [typeLookup_type, builtinLookup_eq_fast]; kernel_rfl
theorem ba_bind : Builtin.Bytes.bindOptional "bytearray.__init__" "bytearray" ["source", "encoding", "errors"] [] [] = pure [none, none, none] := by kernel_rfl
theorem ba_owner : ("bytearray.__new__".splitOn ".__new__").headD "" = "bytearray" := by simp +decide [String.splitOn, String.splitOnAux]
end F
end Mine
end
section
open PySem PySem.W PyProof.Rows PySem.Calls
set_option maxRecDepth 100000
namespace Mine
section
variable {prog : Program} {w : World} {A : Around} {E : Value → Shared → Prop} {s : Shared}
theorem codeR_builtin {id : String} {args : Args} {b : Builtin} {R : Result → Shared → Prop} (hk : okId id = true) (hp : plainId id = true) (hb : entryFor table id = some b)
    (h : wpR (model prog w) A.in1 (b args)
      (fun fin s' => match fin with | .done f => R (.ok f) s' | .again c' => c'.quiet = true ∧ codeR (model prog w) A c' R s') (fun e s' => R (.error e) s') s) :
    codeR (model prog w) A (.builtin id args) R s := by
  refine codeR_of_tree hk ?_
  rw [Around.under_plainId hp]
  show wpR _ _ (match entryFor table id with | some b => b args | none => unsupported ((withoutEnding? id "#data").getD id)) _ _ s
  rw [hb]; exact h
theorem codeR_call_builtin {id : String} {args : Args} {b : Builtin} {R : Result → Shared → Prop} (hk : okId id = true) (hp : plainId id = true) (hb : entryFor table id = some b)
    (h : wpAny (model prog w) A.in1 (checkBuiltinCall id args) (fun _ s₁ => wpR (model prog w) A.in1 (b args)
      (fun fin s' => match fin with | .done f => R (.ok f) s' | .again c' => c'.quiet = true ∧ codeR (model prog w) A c' R s') (fun e s' => R (.error e) s') s₁) (fun e s' => R (.error e) s') s) :
    codeR (model prog w) A (.call (.builtin id) args) R s := by
  refine codeR_of_tree rfl ?_
  show wpR _ A.in1 (do checkBuiltinCall id args; again (.builtin id args)) _ _ s
  exact wpR_step (wpAny_mono h (fun _ s₁ h₁ => wpR_pure ⟨plainId_quiet hp _, codeR_builtin hk hp hb h₁⟩) fun _ _ x => x)
theorem wpAny_byteValue {M : Model} {n : Int} {t : Tok} {Q : UInt8 → Shared → Prop} (h0 : 0 ≤ n) (h1 : n < 256) (h : Q n.toNat.toUInt8 s) : wpAny M A (Builtin.Bytes.byteValue (.int n t)) Q E s := by
  unfold Builtin.Bytes.byteValue
  refine wpAny_bind (wpAny_of_eq (rfl : asIndex (.int n t) = pure n) ?_)
  refine bm_if_false (by simp only [Bool.or_eq_false_iff, decide_eq_false_iff_not]; omega) ?_
  exact wpAny_pure h
theorem ba_typeIs {a : Addr} {b : Array UInt8} (ho : s.heap.get? a = some (ba b)) : s.TypeIs (.ref a) "bytearray" := ⟨_, ho, rfl⟩
/-- found.append(n) -/
theorem ba_append {a : Addr} {b : Array UInt8} {n : Int} {t : Tok} {Q : Value → Shared → Prop} (ho : s.heap.get? a = some (ba b)) (hz : b.size + 1 ≤ sizeLine) (h0 : 0 ≤ n) (h1 : n < 256)
    (h : ∀ h', h'.get? a = some (ba (b.push n.toNat.toUInt8)) → Heap.SameBut a s.heap h' → Q .none { s with heap := h' }) :
    wpR (model prog w) A (call (.builtin "bytearray.append") [.ref a, .int n t]) Q E s := by
  refine wpR_call (codeR_call_builtin (by decide +kernel) F.ba_plain_append F.ba_entry_append (F.ba_slot_append.check _ _ _ _ _ _ _ _ (ba_typeIs ho) (F.ba_args_append _ _) ?_))
  unfold Builtin.«bytearray.append»
  refine wpR_step (wpAny_of_eq (a := (.ref a, .int n t)) rfl ?_)
  refine wpR_step (wpAny_byteValue h0 h1 ?_)
  refine wpR_bind (wpR_checkResize ho ?_)
  refine wpR_step (wpAny_write ho (by rw [Array.size_push]; omega) fun h' g k => ?_)
  exact wpR_pure (h h' g k)

theorem ba_loop {R : Result → Shared → Prop} {a l I S : Addr} {b : Array UInt8} {vs : List Value} {ns : List Int} (hh : A.handled = none) (hi : IntsAre vs ns) (hr : ∀ n ∈ ns, 0 ≤ n ∧ n < 256) (hz : b.size + ns.length ≤ sizeLine) (hne : ns ≠ [])
    (hIS : I ≠ S) (hlI : l ≠ I) (hlS : l ≠ S) (haI : a ≠ I) (haS : a ≠ S) :
    ∀ (k i : Nat) (s : Shared), ns.length - i = k → i ≤ ns.length → s.heap.IsList l vs.toArray → s.heap.IsListIter I l i → s.heap.get? S = some (ba (byteArr (ns.take i))) → s.heap.get? a = some (ba b) →
      (∀ h' k', (∀ c o, c ≠ I → c ≠ S → c ≠ a → s.heap.get? c = some o → h'.get? c = some o) → h'.get? a = some (ba (b ++ byteArr ns)) → R (.ok (.ret .none)) { s with heap := h', toks := k' }) →
      codeR (model prog w) A (.builtin "bytearray.extend.loop" ⟨[.ref a, .ref l, .ref I, .ref S], []⟩) R s := by
  have hlen : vs.length = ns.length := hi.length
  intro k
  induction k with
  | zero =>
    intro i s hk hle hl hit hS ha hR
    have hin : i = ns.length := by omega
    subst hin
    refine codeR_builtin (by decide +kernel) F.ba_plain_loop F.ba_entry_loop ?_
    show wpR _ A.in1 (pyNext (.ref I) >>= _) _ _ s
    refine wpR_step (wpAny_pyNext_list_end hh hit hl (by simp [hlen]) fun h' he => ?_)
    have hS' : h'.get? S = some (ba (byteArr (ns.take ns.length))) := he S _ (Ne.symm hIS) hS
    have ha' : h'.get? a = some (ba b) := he a _ haI ha
    refine wpR_pure ⟨plainId_quiet F.ba_plain_end _, codeR_builtin (by decide +kernel) F.ba_plain_end F.ba_entry_end ?_⟩
    show wpR _ _ (point >>= _) _ _ _
    refine wpR_step (wpAny_point ?_)
    refine wpR_step ?_
    unfold Builtin.Bytes.payload Builtin.Bytes.payload?
    refine wpAny_bind (wpAny_bind (wpAny_load hS' ?_))
    refine wpAny_pure (wpAny_pure ?_)
    rw [List.take_length]
    have hemp : (byteArr ns).isEmpty = false := by
      rw [Array.isEmpty_eq_false_iff]
      intro h
      apply hne
      have := byteArr_size ns
      rw [h] at this
      exact List.length_eq_zero_iff.mp this.symm
    show wpR _ _ (if (!(byteArr ns).isEmpty) = true then (do Builtin.Bytes.checkResize (.ref a); Builtin.Bytes.write (.ref a) (· ++ byteArr ns); ret .none) else (do Builtin.Bytes.write (.ref a) (· ++ byteArr ns); ret .none)) _ _ _
    rw [hemp]
    refine wpR_bind (wpR_checkResize ha' ?_)
    refine wpR_step (wpAny_write ha' (by rw [Array.size_append, byteArr_size]; omega) fun h2 g k2 => ?_)
    exact wpR_pure (hR h2 _ (fun c o c1 _ c3 e => k2.extBut c o c3 (he c o c1 e)) g)
  | succ k ih =>
    intro i s hk hle hl hit hS ha hR
    have hlt : i < ns.length := by omega
    obtain ⟨x, hx⟩ : ∃ x, vs[i]? = some x := ⟨vs[i]'(by omega), List.getElem?_eq_getElem (by omega)⟩
    obtain ⟨n, t, rfl, hn⟩ := IntsAre.at hi i x hx
    obtain ⟨h0, h1⟩ := hr n (List.mem_of_getElem? hn)
    refine codeR_builtin (by decide +kernel) F.ba_plain_loop F.ba_entry_loop ?_
    show wpR _ A.in1 (pyNext (.ref I) >>= _) _ _ s
    refine wpR_step (wpAny_pyNext_list_item (x := .int n t) hit hl (by simpa using hx) fun h' hit' hs => ?_)
    have hS' : h'.get? S = some (ba (byteArr (ns.take i))) := (hs.2 S (Ne.symm hIS)).trans hS
    have ha' : h'.get? a = some (ba b) := (hs.2 a haI).trans ha
    refine wpR_step (wpAny_tryCatch (wpAny_holding (wpAny_byteValue h0 h1 ?_)))
    refine wpR_step (wpAny_letGo ?_)
    refine wpR_step (wpAny_write hS' (by rw [Array.size_push, byteArr_size, List.length_take]; omega) fun h2 g k2 => ?_)
    rw [← byteArr_take hn] at g
    refine wpR_pure ⟨plainId_quiet F.ba_plain_loop _, ih (i + 1) { s with heap := h2 } (by omega) hlt ?_ ?_ g ?_ fun h3 k' hk3 g3 => ?_⟩
    · exact (hl.extBut hs.extBut hlI).extBut k2.extBut hlS
    · exact hit'.extBut k2.extBut hIS
    · exact (k2.2 a haS).trans ha'
    · exact hR h3 k' (fun c o c1 c2 c3 e => hk3 c o c1 c2 c3 (k2.extBut c o c2 (hs.extBut c o c1 e))) g3
/-- found.extend([..]) -/
theorem ba_extend {a l : Addr} {b : Array UInt8} {vs : List Value} {ns : List Int} {Q : Value → Shared → Prop} (hh : A.handled = none) (ho : s.heap.get? a = some (ba b)) (hl : s.heap.IsList l vs.toArray) (hi : IntsAre vs ns) (hr : ∀ n ∈ ns, 0 ≤ n ∧ n < 256) (hz : b.size + ns.length ≤ sizeLine) (hne : ns ≠ [])
    (h : ∀ h' k', (∀ c o, c ≠ a → s.heap.get? c = some o → h'.get? c = some o) → h'.get? a = some (ba (b ++ byteArr ns)) → Q .none { s with heap := h', toks := k' }) :
    wpR (model prog w) A (call (.builtin "bytearray.extend") [.ref a, .ref l]) Q E s := by
  refine wpR_call (codeR_call_builtin (by decide +kernel) F.ba_plain_extend F.ba_entry_extend (F.ba_slot_extend.check _ _ _ _ _ _ _ _ (ba_typeIs ho) (F.ba_args_extend _ _) ?_))
  have hT : s.TypeIs (.ref l) "list" := hl.typeIs
  obtain ⟨ol, hol, hoc, nl, hod⟩ := id hl
  unfold Builtin.«bytearray.extend»
  refine wpR_step (wpAny_of_eq (a := (.ref a, .ref l)) rfl ?_)
  refine wpR_step (wpAny_specialOf hT F.bm_no_buffer ?_)
  show wpR _ _ (Sem.tryCatch _ _ >>= _) _ _ _
  refine wpR_step (wpAny_tryCatch (wpAny_pyIter_list hl ?_))
  have hl₁ : (s.heap.push { cls := .type "list_iterator", data := .fields #[.ref l, .int 0 0] }).IsList l vs.toArray := hl.push _
  have hT₁ : ({ s with heap := s.heap.push { cls := .type "list_iterator", data := .fields #[.ref l, .int 0 0] } } : Shared).TypeIs (.ref l) "list" := Heap.IsList.typeIs (s := { s with heap := s.heap.push { cls := .type "list_iterator", data := .fields #[.ref l, .int 0 0] } }) hl₁
  refine wpR_step (wpAny_holding ?_)
  unfold Builtin.Bytes.lengthHint
  refine wpAny_bind (wpAny_specialOf hT₁ slot_list_len.lookup ?_)
  dsimp only
  rw [PySem.F.bm_split]
  dsimp only
  refine wpAny_bind (wpAny_isInstance hT₁ PySem.F.bm_sub_list ?_)
  refine bm_if_false rfl ?_
  refine bm_if_true (by decide +kernel) ?_
  refine wpAny_pure ?_
  refine wpR_step ?_
  unfold Builtin.Bytes.newBytearray
  refine wpAny_newObj_type ?_ (Nat.zero_le _)
  have hI : ((s.heap.push { cls := .type "list_iterator", data := .fields #[.ref l, .int 0 0] }).push { cls := .type "bytearray", data := .bytearray #[] }).IsListIter s.heap.objs.size l 0 :=
    ⟨_, Heap.get?_push_of_some _ (Heap.get?_push_size _ rfl), rfl, rfl⟩
  have hlt : l < s.heap.objs.size := Heap.lt_size hol
  have halt : a < s.heap.objs.size := Heap.lt_size ho
  have hsz : (s.heap.push { cls := .type "list_iterator", data := .fields #[.ref l, .int 0 0] }).objs.size = s.heap.objs.size + 1 := Heap.size_push _ _
  refine wpR_pure ⟨plainId_quiet F.ba_plain_loop _, ?_⟩
  refine ba_loop (l := l) (I := s.heap.objs.size) (S := (s.heap.push { cls := .type "list_iterator", data := .fields #[.ref l, .int 0 0] }).objs.size) hh hi hr hz hne (by rw [hsz]; exact Nat.ne_of_lt (Nat.lt_succ_self _)) (Nat.ne_of_lt hlt) (by rw [hsz]; exact Nat.ne_of_lt (Nat.lt_succ_of_lt hlt)) (Nat.ne_of_lt halt) (by rw [hsz]; exact Nat.ne_of_lt (Nat.lt_succ_of_lt halt))
    ns.length 0 _ rfl (Nat.zero_le _) (hl₁.push _) hI (Heap.get?_push_size _ rfl) (Heap.get?_push_of_some _ (Heap.get?_push_of_some _ ho)) fun h' k' hk g => ?_
  exact h h' k' (fun c o hc e => hk c o (Nat.ne_of_lt (Heap.lt_size e)) (by rw [hsz]; exact Nat.ne_of_lt (Nat.lt_succ_of_lt (Heap.lt_size e))) hc (Heap.get?_push_of_some _ (Heap.get?_push_of_some _ e))) g
end
end Mine
end
section
open PySem PySem.W PyProof.Rows PySem.Calls
set_option maxRecDepth 100000
namespace Mine
namespace F
theorem ba_release : typeLookup (.type "bytearray") "__release_buffer__" = pure (some (.builtin "bytearray.__release_buffer__")) := by rw [typeLookup_type, builtinLookup_eq_fast]; kernel_rfl
theorem ba_ends : ("bytearray.__release_buffer__" : String).endsWith ("." ++ "__release_buffer__") = true := by decide +kernel
theorem ba_drop : ("bytearray.__release_buffer__" : String).dropRight (("__release_buffer__" : String).length + 1) = "bytearray" := by decide +kernel
theorem ba_ends2 : ("bytearray.__buffer__" : String).endsWith ("." ++ "__buffer__") = true := by decide +kernel
theorem ba_drop2 : ("bytearray.__buffer__" : String).dropRight (("__buffer__" : String).length + 1) = "bytearray" := by decide +kernel
end F
section
variable {prog : Program} {w : World} {A : Around} {E : Value → Shared → Prop} {s : Shared}
theorem wpR_iff {α : Type} {M : Model} {c : Bool} {a b : Sem α} {Q : α → Shared → Prop} (hc : c = false) (h : wpR M A b Q E s) : wpR M A (if c = true then a else b) Q E s := by
  subst hc; exact h
theorem codeR_builtinU {id : String} {args : Args} {b : Builtin} {R : Result → Shared → Prop} (hk : okId id = true) (h1 : (Code.builtin id args).weight = 0) (h2 : (Code.builtin id args).cUnits = 1) (hb : entryFor table id = some b)
    (h : wpR (model prog w) A.in1 (b args)
      (fun fin s' => match fin with | .done f => R (.ok f) s' | .again c' => c'.quiet = true ∧ codeR (model prog w) A c' R s') (fun e s' => R (.error e) s') s) :
    codeR (model prog w) A (.builtin id args) R s := by
  refine codeR_of_tree hk ?_
  rw [Around.under_plain h1 h2]
  show wpR _ _ (match entryFor table id with | some b => b args | none => unsupported ((withoutEnding? id "#data").getD id)) _ _ s
  rw [hb]; exact h
theorem ba_new {Q₁ : Value → Shared → Prop} (h : Q₁ (.ref s.heap.objs.size) { s with heap := s.heap.push (ba #[]) }) :
    codeAny (model prog w) A (.call (.builtin "bytearray.__new__") ⟨[.type "bytearray"], []⟩) (wants Q₁ E) s := by
  refine codeAny_of_tree ?_
  show wpAny _ A.in1 (do checkBuiltinCall "bytearray.__new__" ⟨[.type "bytearray"], []⟩; again (.builtin "bytearray.__new__" ⟨[.type "bytearray"], []⟩)) _ _ s
  refine wpAny_bind (wpAny_of_eq F.ba_newCall (wpAny_pure ⟨plainId_quiet F.ba_plain_new _, codeAny_builtin_stack F.ba_entry_new rfl fun p st => ?_⟩))
  rw [Around.under_plainId F.ba_plain_new _]
  dsimp only
  have h1 := F.ba_owner
  have h2 := F.isi_self_bytearray
  refine wpAny_bind (wpAny_of_eq (a := true) rfl ?_)
  refine bm_if_false rfl ?_
  rw [h1]
  refine wpAny_bind (wpAny_of_eq h2 ?_)
  refine bm_if_false rfl ?_
  refine wpAny_bind (wpAny_pure ?_)
  refine bm_if_true (by decide +kernel) ?_
  refine wpAny_bind (wpAny_newObj_type ?_ (Nat.zero_le _))
  first
    | exact wpAny_pure h
    | exact wpAny_bind (wpAny_pure (wpAny_pure h))
theorem ba_own {M : Model} {a : Addr} {b : Array UInt8} {Q : Bool → Shared → Prop} (ho : s.heap.get? a = some (ba b)) (h : Q false s) : wpAny M A (Builtin.Bytes.ownRelease (.ref a)) Q E s := by
  unfold Builtin.Bytes.ownRelease
  refine wpAny_bind ?_
  unfold Builtin.Bytes.slotIsOwn
  refine wpAny_bind (wpAny_specialOf (ba_typeIs ho) F.ba_release ?_)
  dsimp only
  rw [F.ba_ends, F.ba_drop]
  refine bm_if_false rfl ?_
  exact wpAny_isInstance (ba_typeIs ho) F.isi_self_bytearray (wpAny_pure h)
theorem ba_init {a : Addr} {b : Array UInt8} {Q : Value → Shared → Prop} (ho : s.heap.get? a = some (ba b)) (h : ∀ h', h'.get? a = some (ba #[]) → Heap.SameBut a s.heap h' → Q .none { s with heap := h' }) :
    wpR (model prog w) A (call (.builtin "bytearray.__init__") [.ref a]) Q E s := by
  refine wpR_call (codeR_call_builtin (by decide +kernel) F.ba_plain_init F.ba_entry_init (F.ba_slot_init.check _ _ _ _ _ _ _ _ (ba_typeIs ho) (F.ba_args_init _) ?_))
  unfold Builtin.«bytearray.__init__»
  dsimp only
  refine wpR_step (ba_own ho ?_)
  refine wpR_iff rfl ?_
  refine wpR_step (wpAny_of_eq F.ba_bind ?_)
  dsimp only
  refine wpR_step (wpAny_of_eq (a := ()) rfl ?_)
  refine wpR_step (wpAny_of_eq (a := ()) rfl ?_)
  refine wpR_bind ?_
  refine wpR_bind (wpR_exported ?_)
  refine wpR_bind (wpR_bind ?_)
  refine wpR_of ?_
  refine wpAny_load ho ?_
  dsimp only [ba]
  refine wpR_pure ?_
  refine wpR_pure ?_
  refine wpR_iff rfl ?_
  refine wpR_step (wpAny_write ho (Nat.zero_le _) fun h' g k => ?_)
  refine wpR_step (wpAny_of_eq (a := ()) rfl ?_)
  exact wpR_pure (h h' g k)
/-- bytearray() -/
theorem ba_make {Q : Value → Shared → Prop} (h : ∀ h', h'.get? s.heap.objs.size = some (ba #[]) → (∀ c o, s.heap.get? c = some o → h'.get? c = some o) → Q (.ref s.heap.objs.size) { s with heap := h' }) :
    wpR (model prog w) A (call (.type "bytearray") []) Q E s := by
  refine wpR_call (codeR_of_tree rfl ?_)
  show wpR _ _ (callAny (.type "bytearray") _) _ _ _
  refine wpR_pure ⟨Code.quiet_builtin _ (by decide +kernel), codeR_builtinU (by decide +kernel) (weight_type_call_type "bytearray" [] []) rfl PySem.F.entry_type_call ?_⟩
  unfold Builtin.«type.__call__»
  dsimp only
  refine wpR_iff (by decide) ?_
  refine wpR_iff (by decide +kernel) ?_
  refine wpR_step (wpAny_of_eq F.ba_typeCall ?_)
  refine wpR_step (wpAny_of_eq F.ba_mro ?_)
  refine wpR_iff rfl ?_
  refine wpR_step (wpAny_of_eq F.ba_called.made ?_)
  dsimp only
  refine wpR_step (wpAny_pure ?_)
  refine wpR_step (wpAny_holding (wpAny_call (codeAny_mono (ba_new (Q₁ := fun v s' => v = .ref s.heap.objs.size ∧ s' = { s with heap := s.heap.push (ba #[]) }) (E := fun _ _ => False) ⟨rfl, rfl⟩) fun r s' hr => ?_)))
  cases r with
  | error e => exact hr.elim
  | ok f =>
    cases f with
    | ret v =>
      obtain ⟨rfl, rfl⟩ := hr
      have hg : (s.heap.push (ba #[])).get? s.heap.objs.size = some (ba #[]) := Heap.get?_push_size _ rfl
      refine wpR_step (wpAny_isInstance (ba_typeIs (s := { s with heap := s.heap.push (ba #[]) }) hg) F.isi_self_bytearray ?_)
      refine wpR_iff rfl ?_
      refine wpR_bind (wpR_holding ?_)
      unfold callSpecial?
      refine wpR_step (wpAny_specialOf (ba_typeIs (s := { s with heap := s.heap.push (ba #[]) }) hg) F.ba_slot_init.lookup ?_)
      dsimp only
      refine wpR_holding ?_
      refine wpR_step (wpAny_of_eq (F.ba_slot_init.bind _) ?_)
      refine wpR_bind (ba_init hg fun h' g k => ?_)
      refine wpR_pure ?_
      dsimp only
      refine wpR_iff (by decide) ?_
      exact wpR_pure (h h' g fun c o e => k.extBut c o (Nat.ne_of_lt (Heap.lt_size e)) (Heap.get?_push_of_some _ e))
    | _ => exact hr.elim
end
end Mine
end
section
open PySem PySem.W PyProof.Rows PySem.Calls
set_option maxRecDepth 100000
namespace Mine
section
variable {prog : Program} {w : World} {A : Around} {E : Value → Shared → Prop} {s : Shared}
theorem ba_payload {M : Model} {a : Addr} {b : Array UInt8} {Q : Array UInt8 → Shared → Prop} (ho : s.heap.get? a = some (ba b)) (h : Q b s) : wpAny M A (Builtin.Bytes.payload (.ref a)) Q E s := by
  unfold Builtin.Bytes.payload Builtin.Bytes.payload?
  refine wpAny_bind (wpAny_bind (wpAny_load ho ?_))
  exact wpAny_pure (wpAny_pure h)
theorem ba_buffer? {M : Model} {id : String} {a : Addr} {b : Array UInt8} {Q : Option (Array UInt8) → Shared → Prop} (ho : s.heap.get? a = some (ba b)) (h : Q (some b) s) : wpAny M A (Builtin.Bytes.buffer? id (.ref a) true) Q E s := by
  have hT := ba_typeIs ho
  unfold Builtin.Bytes.buffer?
  refine wpAny_bind (wpAny_specialOf hT F.ba_buffer ?_)
  dsimp only
  refine wpAny_bind ?_
  unfold Builtin.Bytes.slotIsOwn
  refine wpAny_bind (wpAny_specialOf hT F.ba_buffer ?_)
  dsimp only
  rw [F.ba_ends2, F.ba_drop2]
  refine bm_if_false rfl ?_
  refine wpAny_isInstance hT F.isi_self_bytearray ?_
  refine bm_if_false rfl ?_
  refine wpAny_bind (wpAny_specialOf hT F.ba_buffer ?_)
  refine wpAny_bind (ba_own ho ?_)
  refine bm_if_false rfl ?_
  exact wpAny_bind (ba_payload ho (wpAny_pure h))
theorem ba_bytes_new {a : Addr} {b : Array UInt8} {Q : Value → Shared → Prop} (ho : s.heap.get? a = some (ba b)) (hz : b.size ≤ sizeLine) (h : ∀ t, Q (.bytes b t) { s with toks := s.toks + 1 }) :
    codeAny (model prog w) A (.call (.builtin "bytes.__new__") ⟨[.type "bytes", .ref a], []⟩) (wants Q E) s := by
  refine codeAny_of_tree ?_
  show wpAny _ A.in1 (do checkBuiltinCall "bytes.__new__" ⟨[.type "bytes", .ref a], []⟩; again (.builtin "bytes.__new__" ⟨[.type "bytes", .ref a], []⟩)) _ _ s
  refine wpAny_bind (wpAny_of_eq (PySem.F.bm_newCall _) (wpAny_pure ⟨plainId_quiet PySem.F.bm_plain _, codeAny_builtin PySem.F.bm_entry ?_⟩))
  rw [Around.under_plainId PySem.F.bm_plain _]
  have hT := ba_typeIs ho
  unfold Builtin.«bytes.__new__»
  refine wpAny_bind (wpAny_of_eq (a := true) rfl ?_)
  refine bm_if_false rfl ?_
  refine wpAny_bind (wpAny_of_eq PySem.F.bm_sub ?_)
  refine bm_if_false rfl ?_
  refine wpAny_bind (wpAny_of_eq (PySem.F.bm_bind _) ?_)
  refine wpAny_bind (wpAny_of_eq (a := ()) rfl ?_)
  refine wpAny_bind (wpAny_of_eq (a := ()) rfl ?_)
  refine bm_if_false rfl ?_
  refine wpAny_bind (wpAny_specialOf hT F.ba_no_bytes ?_)
  refine wpAny_bind (wpAny_bind ?_)
  show wpAny _ _ (load a >>= _) _ _ _
  refine wpAny_bind (wpAny_load ho ?_)
  refine wpAny_pure (wpAny_pure ?_)
  refine bm_if_false rfl ?_
  refine wpAny_bind (wpAny_specialOf hT F.ba_no_index ?_)
  refine bm_if_true rfl ?_
  refine wpAny_bind ?_
  refine ba_buffer? ho ?_
  dsimp only
  refine wpAny_bind (wpAny_rule ?_)
  refine wpAny_bind (wpAny_mkBytes ?_ hz)
  show wpAny _ _ (if (Value.type "bytes" == Value.type "bytes") = true then _ else _) _ _ _
  refine bm_if_true (by decide) ?_
  first
    | exact wpAny_pure (h _)
    | exact wpAny_bind (wpAny_pure (wpAny_pure (h _)))
    | exact wpAny_bind (wpAny_pure (wpAny_pure (wpAny_pure (h _))))
/-- bytes(found) -/
theorem ba_bytes {a : Addr} {b : Array UInt8} {Q : Value → Shared → Prop} (ho : s.heap.get? a = some (ba b)) (hz : b.size ≤ sizeLine) (h : ∀ t, Q (.bytes b t) { s with toks := s.toks + 1 }) :
    wpAny (model prog w) A (call (.type "bytes") [.ref a]) Q E s := by
  refine callType_codes (Q₁ := fun obj s₁ => s₁.TypeIs obj "bytes" ∧ Q obj s₁) PySem.F.bm_called (PySem.F.bm_typeCall _) PySem.F.entry_object_init
    (ba_bytes_new ho hz fun t => ⟨PySem.W.typeIs_bytes _ _ _, h t⟩) fun obj s₁ h₁ => ?_
  exact ⟨h₁.1, PySem.F.args_object_init_2 obj _, object_init_meets PySem.F.bm_called.init.lookup PySem.F.bm_called.made (by decide) prog w A.in1 _ s₁ ⟨h₁.1, rfl, h₁.2⟩⟩
end
section
variable {M : Model} {A : Around} {E : Value → Shared → Prop} {s : Shared} {env : Env}
theorem wpR_execs_nil {Q : Flow → Shared → Prop} (h : Q .next s) : wpR M A (execs [] env) Q E s := wpR_pure h
theorem wpR_execs_cons {st : Stmt} {rest : List Stmt} {Q : Flow → Shared → Prop}
    (h : wpR M A (exec st env) (fun f s' => match f with | .next => wpR M A (execs rest env) Q E s' | f => Q f s') E s) : wpR M A (execs (st :: rest) env) Q E s := by
  rw [execs_cons]
  refine wpR_bind (wpR_mono h (fun f s' h' => ?_) fun _ _ x => x)
  cases f <;> first | exact h' | exact wpR_pure h'
theorem wpR_If {test : Expr} {body orelse : List Stmt} {pos : Pos} {Q : Flow → Shared → Prop}
    (h : wpR M A (isTrue test env (eval test env)) (fun b s' => if b = true then wpR M A (execs body env) Q E s' else wpR M A (execs orelse env) Q E s') E s) : wpR M A (exec (.If test body orelse pos) env) Q E s := by
  rw [exec_If]
  refine wpR_step (wpAny_standAt (wpR_bind (wpR_mono h (fun b s' h' => ?_) fun _ _ x => x)))
  cases b <;> exact h'
theorem wpR_Expr {e : Expr} {pos : Pos} {Q : Flow → Shared → Prop} (h : wpR M A (eval e env) (fun v s' => v = .none ∧ Q .next s') E s)
    (hi : interactive env = false := by rfl) (hs : swapsWith e none pos.line env = pure false := by rfl) : wpR M A (exec (.Expr e pos) env) Q E s := by
  rw [exec_Expr env e pos hi hs]
  refine wpR_step (wpAny_standAt (wpR_bind (wpR_mono h (fun v s' h' => ?_) fun _ _ x => x)))
  obtain ⟨rfl, h'⟩ := h'
  rw [dropValue_plain (by intro a h; cases h)]
  exact wpR_pure h'
theorem wpR_Assign_Name {x : Str} {pos' pos : Pos} {value : Expr} {Q : Flow → Shared → Prop}
    (h : wpR M A (eval value env) (fun v s₁ => wpAny M A (storeName env x v) (fun _ => Q .next) E s₁) E s)
    (hs : swapsWith value (some (.Name x pos')) pos.line env = pure false := by rfl) : wpR M A (exec (.Assign [.Name x pos'] value pos) env) Q E s := by
  rw [exec_Assign_Name env x pos' value pos hs]
  refine wpR_step (wpAny_standAt (wpR_bind (wpR_mono h (fun v s' h' => ?_) fun _ _ x => x)))
  exact wpR_step (wpAny_standAt (wpR_step (wpAny_bindName (wpAny_mono h' (fun _ _ z => wpR_pure z) fun _ _ x => x))))
theorem wpR_Return {e : Expr} {pos : Pos} {Q : Flow → Shared → Prop} (h : wpR M A (eval e env) (fun v s' => Q (.ret v) s') E s) : wpR M A (exec (.Return (some e) pos) env) Q E s := by
  rw [exec_Return_some]
  exact wpR_step (wpAny_standAt (wpR_bind (wpR_mono h (fun _ _ z => wpR_pure z) fun _ _ x => x)))
theorem wpR_Call_Name {x : Str} {p pos : Pos} {args : List Expr} {Q : Value → Shared → Prop}
    (h : wpAny M A (eval (.Name x p) env) (fun f s₁ => wpR M A (callWith pos f [] (backTo pos (starEach args env)) (backToKw pos (keywordEach [] env))) Q E s₁) E s) :
    wpR M A (eval (.Call (.Name x p) args [] pos) env) Q E s := by
  rw [arm_eval_Call_Name']
  exact wpR_step h
theorem wpR_keep {α : Type} {vs : List Value} {m : Sem α} {Q : α → Shared → Prop} (h : wpR M A m Q E s) : wpR M A (m.keep vs) Q E s :=
  fun Γ p hΓ ho => by rw [Sem.wp_keep]; exact h Γ p hΓ ho
/-- a call whose callee's keeper is known -/
theorem wpR_callWith {pos : Pos} {f : Value} {first : List Value} {args : List (Bool × Sem Value)} {Q : Value → Shared → Prop} (hplain : args.any (·.1) = false)
    (h : wpAny M A (evalArgs f true args []) (fun a s₁ => wpAny M A (keeperOf f) (fun k s₂ => (k = .machine ∨ k = .frame) ∧ wpR M A (call f (first ++ a.pos) a.kw) Q E s₂) E s₁) E s) :
    wpR M A (callWith pos f first args []) Q E s := by
  unfold callWith
  refine wpR_step (wpAny_holding (wpAny_mono h (fun a s₁ h₁ => ?_) fun _ _ x => x))
  refine wpR_step (wpAny_standAt ?_)
  simp only [hplain, List.any_nil, Bool.or_false]
  refine wpR_step (wpAny_mono h₁ (fun k s₂ h₂ => ?_) fun _ _ x => x)
  obtain ⟨hk, h₂⟩ := h₂
  have tail : wpR M A (call f (first ++ a.pos) a.kw) (fun r s' => wpR M A (holding [r] point >>= fun _ => pure r) Q E s') E s₂ :=
    wpR_mono h₂ (fun r s' z => wpR_step (wpAny_holding (wpAny_point (wpR_pure z)))) fun _ _ x => x
  rcases hk with rfl | rfl
  · exact wpR_bind tail
  · dsimp only
    split
    · exact wpR_bind tail
    · unfold callMarked
      exact wpR_bind (wpR_keep tail)
end
end Mine
end
section
open PySem PySem.W PyProof.Rows PySem.Calls
set_option maxRecDepth 100000
namespace Mine
section
variable {prog : Program} {w : World} {A : Around} {E : Value → Shared → Prop} {R : Result → Shared → Prop} {s : Shared}
theorem codeR_func {body : List Stmt} {env : Env}
    (h : wpR (model prog w) (A.deeper env) (execs body env) (fun f s' => R (.ok (.ret (match f with | .ret v => v | _ => .none))) s')
      (fun e s' => wpAny (model prog w) (A.deeper env) (leaving env e) (fun _ s'' => R (.error e) s'') (fun e' s'' => R (.error e') s'') s') s) :
    codeR (model prog w) A (.func body env) R s := by
  refine codeR_of_tree rfl ?_
  show wpR _ (A.deeper env) (do point; match ← (execs body env).onRaise (leaving env) with | .ret v => ret v | _ => ret .none) _ _ s
  refine wpR_step (wpAny_point (wpR_bind (wpR_onRaise (wpR_mono h (fun f s' h' => ?_) fun _ _ h' => h'))))
  cases f <;> exact wpR_pure h'
theorem codeR_call_function {a : Addr} {args : Args} {o : Obj} {fd : FuncData} {body : List Stmt} (hroom : A.depth < recursionLimit)
    (ho : s.heap.get? a = some o) (hd' : o.data = .func fd) (hco : fd.scope.isCoroutine = false) (hgen : fd.scope.isGenerator = false) (hbody : fd.body = .stmts body) (hcd : s.heap.CodeRec fd.code fd.qualname)
    (h : wpAny (model prog w) A.in1 (bindArgs fd args) (fun binds s₁ =>
      wpAny (model prog w) A.in1 (newFunctionEnv fd.scope fd.globals fd.closure binds (fd.qualname ++ ".<locals>.") (some a) fd.code none fd.builtins)
        (fun env s₂ => s₂.heap.NoLimit ∧ codeR (model prog w) A (.func body env) R s₂) (fun e s' => R (.error e) s') s₁) (fun e s' => R (.error e) s') s) :
    codeR (model prog w) A (.call (.ref a) args) R s := by
  refine codeR_of_tree rfl ?_
  show wpR _ A.in1 (callAny (.ref a) args) _ _ s
  simp only [callAny]
  refine wpR_step (wpAny_load ho ?_)
  obtain ⟨c, oc, vs, tq, hc, hoc, hdc, hq⟩ := hcd
  simp only [hd', callFunction, hco, hgen, hbody, hc]
  rw [hc] at h
  refine wpR_step (m := field (.ref c) 1) (wpAny_field hoc hdc hq (wpR_step (wpAny_pure ?_)))
  exact wpR_step (wpAny_mono h (fun binds s₁ h₁ => wpR_step (wpAny_mono h₁ (fun env s₂ h₂ => wpR_step (wpAny_enterFrame h₂.1 hroom
    (wpR_pure ⟨rfl, h₂.2⟩))) fun _ _ h' => h')) fun _ _ h' => h')
theorem wpR_noted {M : Model} {α : Type} {env : Env} {m : Sem α} {Q : α → Shared → Prop} (h : wpR M A m Q (notedBy M A env E) s) : wpR M A (m.onRaise fun x => do noteFrame x env; theTreesLotGoes x) Q E s :=
  wpR_onRaise (wpR_mono h (fun _ _ q => q) fun _ _ hx => wpAny_bind (wpAny_mono hx (fun _ _ e => wpAny_theTreesLotGoes e) fun _ _ e => e))
theorem wpR_runOwn {env : Env} {c : Code} {Q : Flow → Shared → Prop}
    (hc : codeR (model prog w) A c (fun r s' => match r with | .ok f => Q f s' | .error _ => False) s) : wpR (model prog w) A (runOwn c env none) Q E s := by
  unfold runOwn
  exact wpR_onRaise (wpR_run (codeR_mono hc fun r s' z => by cases r with | ok f => exact z | error e => exact z.elim) (by intro x; cases x))
/-- for x in text -/
theorem For_str_R {env : Env} {h₀ : Heap} {x : Str} {px pos : Pos} {iter : Expr} {body : List Stmt} {xt : Str} {m₀ : Str → Option Value} {D : Addr} {enc : Nat → Array UInt8} {Q : Flow → Shared → Prop} {found : Str}
    (hx : env.kindOf x = some .local) (hp : (env.scope.kind == .class || (env.scope.kind == .module && env.locals != env.globals)) = false) (hh : A.handled = none)
    (src : ∀ (Q' : Value → Shared → Prop), (∀ t tk, Q' (.str xt t) { s with toks := tk }) → wpAny (model prog w) A (eval iter env) Q' E s)
    (F : Fr h₀ env.locals s.heap m₀) (N : News h₀ env.locals s.heap [(D, ba #[])]) (hm : m₀ found = some (.ref D)) (hxf : found ≠ x)
    (turn : ∀ (pre : List Nat) (c : Nat) (post : List Nat) (t : Tok) (m₁ : Str → Option Value) (h : Heap) (tk : Nat) (own : List (Addr × Obj)) (acc : Array UInt8), xt.cps.toList = pre ++ c :: post → acc = (pre.map enc).foldl (· ++ ·) #[] → m₁ found = some (.ref D) → (∀ p ∈ own, p.1 ≠ D) →
      Fr h₀ env.locals h (fun y => if y = x then some (.str ⟨#[c]⟩ t) else m₁ y) → News h₀ env.locals h ((D, ba acc) :: own) →
      wpR (model prog w) A (execs body env) (fun f s' => f = .next ∧ ∃ h' tk' m', s' = { s with heap := h', toks := tk' } ∧ m' found = some (.ref D) ∧ Fr h₀ env.locals h' m' ∧ News h₀ env.locals h' ((D, ba (acc ++ enc c)) :: own)) (fun _ _ => False) { s with heap := h, toks := tk })
    (done : ∀ h tk m', m' found = some (.ref D) → Fr h₀ env.locals h m' → News h₀ env.locals h [(D, ba ((xt.cps.toList.map enc).foldl (· ++ ·) #[]))] → Q .next { s with heap := h, toks := tk })
    (hs : ∀ x, foldedSetIterable iter env x = pure x := by intro _; rfl) :
    wpR (model prog w) A (exec (.For (.Name x px) iter body [] pos) env) Q E s := by
  rw [exec_For]
  refine wpR_step (wpAny_standAt ?_)
  refine wpR_step (src _ fun t tk0 => ?_)
  refine wpR_step (wpAny_of_eq (hs _) ?_)
  refine wpR_step (wpAny_standAt ?_)
  refine wpR_step (wpAny_holding (wpAny_pyIter_str fun o St hW hst => ?_))
  have W := hW A hh
  refine wpR_runOwn ?_
  have hDI : D ∉ [s.heap.objs.size] := fun e => absurd (Heap.lt_size (N _ (.head _)).1) ((List.mem_singleton.mp e) ▸ Nat.lt_irrefl _)
  have hLI : env.locals ∉ [s.heap.objs.size] := fun e => absurd F.ns.lt ((List.mem_singleton.mp e) ▸ Nat.lt_irrefl _)
  have hI₀ : ∀ b ∈ [s.heap.objs.size], h₀.get? b = none := fun b hb => by rw [List.mem_singleton.mp hb]; exact next_is_new F
  generalize [s.heap.objs.size] = fp at W hDI hLI hI₀
  generalize s.heap.objs.size = I at W hst
  have old : ∀ b o, h₀.get? b = some o → b ∉ fp := fun b o e hb => by rw [hI₀ b hb] at e; cases e
  have hsz : xt.cps.size = xt.cps.toList.length := by simp
  refine codeR_loop rfl rfl (fun k s' => ∃ h' tk m' i, s' = { s with heap := h', toks := tk } ∧ St i h' ∧ Fr h₀ env.locals h' m' ∧ News h₀ env.locals h' [(D, ba (((xt.cps.toList.take i).map enc).foldl (· ++ ·) #[]))] ∧ m' found = some (.ref D) ∧ i ≤ xt.cps.size ∧ k = xt.cps.size + 1 - i) ?_ (xt.cps.size + 1)
    ⟨_, _, m₀, 0, rfl, hst, F.push _, fun p hp => ⟨Heap.get?_push_of_some _ (N p hp).1, (N p hp).2⟩, hm, Nat.zero_le _, rfl⟩
  rintro k s' ⟨h', tk, m', i, rfl, hst', F', N', hm', hi, rfl⟩
  have next : ∀ h₁ : Heap, (∀ b o, b ∉ fp → h'.get? b = some o → h₁.get? b = some o) → Fr h₀ env.locals h₁ m' ∧ News h₀ env.locals h₁ [(D, ba (((xt.cps.toList.take i).map enc).foldl (· ++ ·) #[]))] := fun h₁ hk₁ =>
    ⟨⟨F'.ns.at' fun o e => hk₁ _ o hLI e, fun b o e => hk₁ b o (old b o e) (F'.keep b o e), F'.above⟩, fun p hp => ⟨hk₁ _ _ (by rw [List.mem_singleton.mp hp]; exact hDI) (N' p hp).1, (N' p hp).2⟩⟩
  show wpR _ A ((forTurn (.Name x px) (.ref I) body [] env).onRaise (fun x => do noteFrame x env; theTreesLotGoes x)) _ _ _
  refine wpR_noted ?_
  simp only [forTurn]
  refine wpR_step (wpAny_standAt ?_)
  by_cases hlt : i < xt.cps.size
  · refine wpR_step (wpAny_onRaise (W.item i _ _ _ hlt hst' fun v h₁ tk₁ hP hst₁ hk₁ => ?_))
    obtain ⟨c, u, hc, rfl⟩ := hP
    obtain ⟨F₁, N₁⟩ := next h₁ hk₁
    refine wpR_step (wpAny_of_eq (by rfl) ?_)
    refine wpR_step (wpAny_assign_Name (wpAny_storeName_local hx F₁.ns (fun h₂ hn₂ hs₂ => ?_) hp))
    have F₂ := F₁.set hn₂ hs₂
    have Nown : News h₀ env.locals h₂ (ownOf h₀ fp h₂) := news_ownOf hLI
    have hst₂ : St (i + 1) h₂ := W.frame _ _ _ hst₁ fun b hb o e => (hs₂.2 b fun q => hLI (q ▸ hb)).trans e
    have hc' : xt.cps.toList[i]? = some c := by simpa using hc
    have e1 : xt.cps.toList.take (i + 1) = xt.cps.toList.take i ++ [c] := by rw [List.take_add_one, hc']; rfl
    have e2 : xt.cps.toList = xt.cps.toList.take i ++ c :: xt.cps.toList.drop (i + 1) := by
      have ht := List.take_append_drop (i + 1) xt.cps.toList
      rw [e1, List.append_assoc] at ht
      exact ht.symm
    have N₂ : News h₀ env.locals h₂ ((D, ba (((xt.cps.toList.take i).map enc).foldl (· ++ ·) #[])) :: ownOf h₀ fp h₂) := fun p hp => by
      rcases List.mem_cons.mp hp with rfl | hp
      · exact N₁.set hs₂ _ (.head _)
      · exact Nown p hp
    refine wpR_bind (wpR_mono (turn _ c _ _ _ h₂ _ (ownOf h₀ fp h₂) _ e2 rfl hm' (fun p hp e => hDI (e ▸ ownOf_sub p hp)) F₂ N₂) (fun f s₃ hf => ?_) fun _ _ e => e.elim)
    obtain ⟨rfl, h₃, tk₃, m₃, rfl, hm₃, F₃, N₃⟩ := hf
    refine wpR_pure (.inl ⟨rfl, xt.cps.size + 1 - (i + 1), by omega, h₃, tk₃, m₃, i + 1, rfl, ?_, F₃, ?_, hm₃, hlt, rfl⟩)
    · refine W.frame _ _ _ hst₂ fun b hb o e => ?_
      exact (N₃ _ (List.mem_cons_of_mem _ (mem_ownOf hb (hI₀ b hb) e))).1
    · rw [e1, List.map_append, List.foldl_append]
      exact fun p hp => by rw [List.mem_singleton.mp hp]; exact N₃ _ (.head _)
  · have hin : i = xt.cps.size := by omega
    subst hin
    refine wpR_step (wpAny_onRaise (W.done _ _ _ hst' fun h₁ tk₁ hk₁ => ?_))
    obtain ⟨F₁, N₁⟩ := next h₁ hk₁
    refine wpR_pure (.inr ⟨rfl, ?_⟩)
    refine codeR_of (codeAny_block (wpAny_execs_nil ?_)) rfl
    rw [hsz, List.take_length] at N₁
    exact done h₁ tk₁ m' hm' F₁ N₁
end
end Mine
end
section
open PySem PySem.W PyProof.Rows PySem.Calls
set_option maxRecDepth 100000
namespace Mine
section
variable {prog : Program} {w : World} {A₀ : Around} {E Q : Value → Shared → Prop} {s : Shared} {base h₀ : Heap} {outer : List Env} {L : Addr} {m : Str → Option Value} {K : Frag}
  {p : Program} {loose : List Str} {mean : ExcName → Option Value} {mg mb : Str → Option Value}
  {dp un : Nat} {gd : Option (List Code)} {cn : Str} {cs : Scope} {a : Addr} {ccd : Value} {cl : List (Str × Addr)}
  {name qual : Str} {params : Arguments} {body : List Stmt} {scope : Scope} {dV kV doc pm cdv ct oc : Value} {an od : Option Addr} {osl : Array (Option Value)} {f : Addr} {args : List Value} {binds : List (Str × Value)}
theorem enterR_of (B : Below A₀ base outer h₀) (F : Fr h₀ L s.heap m) (X : K.In h₀) (T : Top p loose mean mg mb h₀) (hk : cs.kind = .function)
    (ho : K.lookup f = some ⟨oc, od, .func (fnOf name qual params body scope dV kV doc pm an cdv ct), osl⟩) (hcd : codeIn K cdv qual = true) (hroom : dp < recursionLimit)
    (hbind : BindsTo s (fnOf name qual params body scope dV kV doc pm an cdv ct) ⟨args, []⟩ binds) (hloc : ∀ y ∈ binds, scope.names.lookup y.1 = some .local)
    (h : ∀ h₁, Fr s.heap s.heap.objs.size h₁ (fun y => binds.reverse.lookup y) → News s.heap s.heap.objs.size h₁ [] →
      Below (ktrTop dp un gd cn cs L a ccd cl outer) base (envX cn cs L a ccd cl :: outer) s.heap → K.In s.heap → Top p loose mean mg mb s.heap →
      wpR (model prog w) ((ktrTop dp un gd cn cs L a ccd cl outer).deeper (envOf qual scope s.heap.objs.size f cdv)) (execs body (envOf qual scope s.heap.objs.size f cdv))
        (fun fl s' => Q (match fl with | .ret v => v | _ => .none) s')
        (fun e s' => wpAny (model prog w) ((ktrTop dp un gd cn cs L a ccd cl outer).deeper (envOf qual scope s.heap.objs.size f cdv)) (leaving (envOf qual scope s.heap.objs.size f cdv) e)
          (fun _ s'' => E e s'') (fun e' s'' => E e' s'') s')
        { s with heap := h₁, toks := s.toks + binds.length })
    (hco : scope.isCoroutine = false := by rfl) (hgen : scope.isGenerator = false := by rfl) (hsk : scope.kind = .function := by rfl)
    (hcell : ∀ x ∈ scope.names, x.2 ≠ .cell := by decide) :
    wpR (model prog w) (ktrTop dp un gd cn cs L a ccd cl outer) (call (.ref f) args) Q E s := by
  have B₁ : Below ((ktrTop dp un gd cn cs L a ccd cl outer)) base (envX cn cs L a ccd cl :: outer) s.heap := by
    have B₂ := pushX (env := envX cn cs L a ccd cl) B F rfl hk
    exact ⟨rfl, B₂.stays, B₂.frames⟩
  refine wpR_call (codeR_call_function (fd := fnOf name qual params body scope dV kV doc pm an cdv ct) hroom ((X.keeps F.keep) _ _ ho) rfl hco hgen rfl (codeRec_of (X.keeps F.keep) hcd) (hbind _ _ _ _ ?_))
  refine wpAny_newFunctionEnv hcell hloc (fun h₁ hns hsb => ⟨(T.nolimit.keeps F.keep).fresh _ hsb, codeR_func ?_⟩) hsk
  have hk₁ : ∀ b o, s.heap.get? b = some o → h₁.get? b = some o := fun b o e => hsb.extBut b o (Nat.ne_of_lt (Heap.lt_size e)) (Heap.get?_push_of_some _ e)
  exact h h₁ ⟨hns, hk₁, Nat.le_refl _⟩ News.nil B₁ (X.keeps F.keep) (T.keeps F.keep)
end
/-- as Gives, under no decoder -/
noncomputable def GivesR (w : World) (mean : ExcName → Option Value) (mg mb : Str → Option Value) (f : Addr) (vs : List Value) (s : Shared) (D U : Nat) (P : Value → Heap → Prop) : Prop :=
  ∀ (dp un : Nat) (gd : Option (List Code)) (cn : Str) (cs : Scope) (a : Addr) (ccd : Value) (cl : List (Str × Addr)) (outer : List Env) (A₀ : Around) (base h₀ : Heap) (L : Addr) (m : Str → Option Value) (Q E : Value → Shared → Prop),
    Below A₀ base outer h₀ → Fr h₀ L s.heap m → (Mine.hd.heap_39 w.params).In h₀ → Top VW LO mean mg mb h₀ → cs.kind = .function → dp + D < recursionLimit → un + U < cLine →
    (∀ r h' tk, Kp s.heap h' → P r h' → Q r { s with heap := h', toks := tk }) →
    wpR (model PR w) (ktrTop dp un gd cn cs L a ccd cl outer) (call (.ref f) vs) Q E s
end Mine
end
section
open PySem PySem.W PyProof.Rows PySem.Calls
set_option maxRecDepth 100000
namespace Mine
section
variable {M : Model} {A : Around} {E : Value → Shared → Prop} {h : Heap} {g : Array GenState} {d : Drawn} {t : Nat} {os : OsState}
variable {nm q : Str} {C N : Addr} {bs bm bmB : List Value} {hdct : Bool} {sn : List Str} {sub : List Value} {ab : Bool} {col : Option Bool} {dd : Option Addr} {k0 k1 k2 k3 k5 : Option Value} {B newId initId : String}
theorem own_check_new (F : ExcBaseFacts B newId initId bmB) (c1 : bm.contains (.type B) = true) {rest : List Value} {Q : Unit → Shared → Prop} (hC : h.get? C = some (excClassObj nm q C N bs bm hdct sn sub ab col dd k0 k1 k2 k3 k5 newId))
    (hq : Q () ⟨h, g, d, t, os⟩) : wpAny M A (checkBuiltinCall newId ⟨.ref C :: rest, []⟩) Q E ⟨h, g, d, t, os⟩ := by
  have hcont : (Value.ref C :: bm).contains (.type B) = true := by rw [List.contains_cons, c1, Bool.or_true]
  have hstar := F.noStar
  simp only [checkBuiltinCall, F.newKind, F.newSplit, F.newRow]
  repeat (first | refine wpAny_loadPart_at hC ?_ | (refine wpAny_isSubtype_exc hC ?_; rw [hcont]) | refine wpAny_staticBase_exc hC ?_ | refine wpAny_madeBy_exc hC ?_ | simp only [bne_self_eq_false, Bool.false_eq_true, if_false] | wp_step)
  exact hq
end
section
variable {prog : Program} {w : World} {A : Around} {E : Value → Shared → Prop} {R : Result → Shared → Prop} {h : Heap} {g : Array GenState} {d : Drawn} {t : Nat} {os : OsState}
variable {nm q : Str} {C N : Addr} {bs bm bmB : List Value} {hdct : Bool} {sn : List Str} {sub : List Value} {ab : Bool} {col : Option Bool} {dd : Option Addr} {k0 k1 k2 k3 k5 : Option Value} {B newId initId : String}
theorem own_new (F : ExcBaseFacts B newId initId bmB) (c1 : bm.contains (.type B) = true) (c2 : bm.contains (.type "AttributeError") = false) (c3 : bm.contains (.type "NameError") = false) {rest : List Value} (hC : h.get? C = some (excClassObj nm q C N bs bm hdct sn sub ab col dd k0 k1 k2 k3 k5 newId))
    (hq : R (.ok (.ret (.ref (h.objs.size + 1)))) ⟨(h.push { cls := .type "tuple", data := .seq rest.toArray }).push
      { cls := .ref C, data := .fields #[.ref h.objs.size, .none, .none, .none, .bool false, .none] }, g, d, t, os⟩) (hrest : rest.length ≤ sizeLine) :
    codeAny (model prog w) A (.builtin newId ⟨.ref C :: rest, []⟩) R ⟨h, g, d, t, os⟩ := by
  have hends := F.ends
  have hcB : (Value.ref C :: bm).contains (.type B) = true := by rw [List.contains_cons, c1, Bool.or_true]
  have hcA : (Value.ref C :: bm).contains (.type "AttributeError") = false := by rw [List.contains_cons, c2]; rfl
  have hcN : (Value.ref C :: bm).contains (.type "NameError") = false := by rw [List.contains_cons, c3]; rfl
  refine codeAny_builtinAt F.entry ?_
  unfold Builtin.«BaseException.__new__»
  refine PySem.wpAt_bind ?_
  show PySem.wpAt _ _ _ (stack >>= _) _ _ _
  refine PySem.wpAt_bind (PySem.wpAt_stack fun p below => PySem.wpAt_of_wpAny ?_)
  wp_walk
  refine PySem.wpAt_of_wpAny ?_
  rw [F.owner]
  repeat (first | with_reducible refine wpAny_madeHere_exc F.canon hC ?_ | with_reducible refine wpAny_loadPart_at hC ?_ | (with_reducible refine wpAny_isSubtype_exc hC ?_; first | rw [hcB] | rw [hcA] | rw [hcN]) | wp_step)
  show R _ _
  rw [Heap.size_push]
  exact hq
theorem own_type_call (F : ExcBaseFacts B newId initId bmB) (c1 : bm.contains (.type B) = true) (c2 : bm.contains (.type "AttributeError") = false) (c3 : bm.contains (.type "NameError") = false) {rest : List Value} {fI : Addr} {oI : Obj} {Q : Fin → Shared → Prop}
    (hC : h.get? C = some (excClassObj nm q C N bs bm hdct sn sub ab col dd k0 k1 k2 k3 k5 newId))
    (hl : ∀ h', (∀ b o, h.get? b = some o → h'.get? b = some o) → Looks (model prog w) h' (typeLookup (.ref C) "__init__") (some (.ref fI)))
    (hfI : h.get? fI = some oI) (hfc : oI.cls = .type "function")
    (hq : ∀ h' e, Heap.MadeExcOf h h' e (.ref C) rest →
      wpAny (model prog w) A (call (.ref fI) (.ref e :: rest)) (fun r s' => r = .none ∧ Q (.done (.ret (.ref e))) s') E ⟨h', g, d, t, os⟩) (hrest : rest.length ≤ sizeLine) :
    wpAny (model prog w) A (Builtin.«type.__call__» ⟨.ref C :: rest, []⟩) Q E ⟨h, g, d, t, os⟩ := by
  repeat (first | with_reducible refine wpAny_loadPart_at hC ?_ | with_reducible refine wpAny_madeBy_exc hC ?_ | wp_step)
  refine codeAny_call_builtin_code (Code.quiet_builtin _ F.quiet) (own_check_new F c1 hC ?_)
  refine own_new F c1 c2 c3 hC ?_ hrest
  show wpAny _ _ _ _ _ _
  have kk : ∀ b o, h.get? b = some o → ((h.push { cls := .type "tuple", data := .seq rest.toArray }).push { cls := .ref C, data := .fields #[.ref h.objs.size, .none, .none, .none, .bool false, .none] }).get? b = some o :=
    fun b o e => Heap.get?_push_of_some _ (Heap.get?_push_of_some _ e)
  have hC₁ := kk _ _ hC
  have hfI₁ := kk _ _ hfI
  have hget : ((h.push { cls := .type "tuple", data := .seq rest.toArray }).push
      { cls := .ref C, data := .fields #[.ref h.objs.size, .none, .none, .none, .bool false, .none] }).get? (h.objs.size + 1) = some
      { cls := .ref C, data := .fields #[.ref h.objs.size, .none, .none, .none, .bool false, .none] } := by heap_get
  have hcC : (Value.ref C :: bm).contains (.ref C) = true := by simp
  unfold isInstance
  repeat (first | with_reducible refine wpAny_loadPart_at hget ?_ | (with_reducible refine wpAny_isSubtype_exc hC₁ ?_; rw [hcC]) | wp_step)
  show wpAny _ _ (typeLookup (.ref C) _) _ _ _
  refine (hl _ kk).here ?_
  refine wpAny_holding (wpAny_bind ?_)
  unfold bindSpecial
  refine wpAny_bind (wpAny_typeOf (T := "function") ⟨_, hfI₁, hfc⟩ ?_)
  rw [if_pos (by decide)]
  refine wpAny_pure (wpAny_bind (wpAny_mono (hq _ (h.objs.size + 1) ⟨kk, Heap.get?_none_of_le (Nat.le_succ _), h.objs.size, hget, Heap.get?_none_of_le (Nat.le_refl _), ?_⟩) (fun r s' hr => ?_) fun _ _ x => x))
  · exact Heap.get?_push_of_some _ (Heap.get?_push_at rfl rfl)
  · obtain ⟨rfl, hQ⟩ := hr
    wp_walk
    exact hQ
theorem own_call (F : ExcBaseFacts B newId initId bmB) (c1 : bm.contains (.type B) = true) (c2 : bm.contains (.type "AttributeError") = false) (c3 : bm.contains (.type "NameError") = false) {rest : List Value} {fI : Addr} {oI : Obj} {Q : Value → Shared → Prop}
    (hC : h.get? C = some (excClassObj nm q C N bs bm hdct sn sub ab col dd k0 k1 k2 k3 k5 newId))
    (hl : ∀ h', (∀ b o, h.get? b = some o → h'.get? b = some o) → Looks (model prog w) h' (typeLookup (.ref C) "__init__") (some (.ref fI)))
    (hfI : h.get? fI = some oI) (hfc : oI.cls = .type "function")
    (hq : ∀ h' e, Heap.MadeExcOf h h' e (.ref C) rest →
      wpAny (model prog w) (A.under (.builtin "type.__call__" ⟨.ref C :: rest, []⟩)) (call (.ref fI) (.ref e :: rest)) (fun r s' => r = .none ∧ Q (.ref e) s') E ⟨h', g, d, t, os⟩) (hrest : rest.length ≤ sizeLine) :
    wpAny (model prog w) A (call (.ref C) rest) Q E ⟨h, g, d, t, os⟩ := by
  have f1 := tc_lookup
  have f2 := tc_bind (.ref C)
  have hT : (⟨h, g, d, t, os⟩ : Shared).TypeIs (.ref C) "type" := ⟨_, hC, rfl⟩
  refine wpAny_call (codeAny_of_tree ?_)
  show wpAny _ _ (callAny (.ref C) _) _ _ _
  repeat (any_goals (first | assumption | with_reducible refine wpAny_loadPart_at hC ?_ | wp_step))
  refine ⟨rfl, ?_⟩
  refine codeAny_call_builtin_at (Code.quiet_builtin _ (by decide +kernel)) entry_typeCall (wpAny_check_type_call_sub hC (own_type_call F c1 c2 c3 hC hl hfI hfc (fun h' e hm => ?_) hrest))
  exact hq h' e hm
end
end Mine
end
section
open PySem PySem.W PyProof.Rows PySem.Calls
set_option maxRecDepth 100000
namespace Mine
open PySem.Builtin PySem.Builtin.ObjectAttr
section
variable {prog : Program} {w : World} {A : Around} {E : Value → Shared → Prop} {R : Result → Shared → Prop} {h : Heap} {g : Array GenState} {d : Drawn} {t : Nat} {os : OsState} {K : Frag} {x C : Addr} {cd : ClassData} {o : Obj} {name : Str} {v : Value} {mA : Str → Option Value}
/-- a field of an own exception -/
theorem osa_exc {od : Option Obj} {tk : Tok} {c2 : Addr} {ns : List Str} (X : K.In h) (I : PySem.W.InstAt h x o C od) (hc : clsIn K C = some cd) (hm : cd.mro = [.ref C, .ref c2, .type "Exception", .type "BaseException", .type "object"]) (hd1 : cd.hasDict = true)
    (ht : findIn K (.ref C) name = some none) (hd : (o.dict = none ∧ mA = fun _ => none) ∨ ∃ dx, o.dict = some dx ∧ dx ≠ x ∧ h.Ns1 dx mA) (hw : PySem.Within mA ns) (hsz : ns.length ≤ 100)
    (hq : ∀ h' tk' d', h'.get? x = some { o with dict := some d' } → d' ≠ x → h'.Ns1 d' (fun y => if y = name then some v else mA y) → (o.dict = none → h.get? d' = none) → (∀ dx, o.dict = some dx → d' = dx) →
      (∀ b ob, b ≠ x → b ≠ d' → h.get? b = some ob → h'.get? b = some ob) → R (.ok (.ret .none)) ⟨h', g, d, tk', os⟩) :
    codeAny (model prog w) A (.call (.builtin "object.__setattr__") ⟨[.ref x, .str name tk, v], []⟩) R ⟨h, g, d, t, os⟩ := by
  have SF := PySem.F.store_object
  have SE := PySem.F.store_Exception
  have ne : cd.mro.isEmpty = false := by rw [hm]; rfl
  have sub : Looks (model prog w) h (isInstance (.ref x) (.type "object")) true := I.type.andThen (looks_mroIn X (by unfold mroIn; rw [hc, Option.bind_some, if_neg (by rw [ne]; decide), hm]; rfl))
  refine codeAny_call_builtin SF.slot.plain SF.entry (@check_slot (model prog w) _ _ ⟨h, g, d, t, os⟩ "object.__setattr__" "object" "__setattr__" (.ref x) [.str name tk, v] [] _ SF.kind SF.split sub (SF.args (.ref x) (.str name tk) v) ?_)
  have hmro : Looks (model prog w) h (mroOf (.ref C)) cd.mro := (looks_clsIn X hc).andThen .now
  rw [osa_eq, refuse_eq]
  refine wpAny_bind (wpAny_bind (I.type.at (wpAny_bind (hmro.at ?_))))
  rw [hm, refuseLoop_ref, refuseLoop_ref, SE.passes]
  refine wpAny_pure (wpAny_bind (I.type.at (wpAny_bind ((looks_findIn X ht).at (wpAny_bind (wpAny_pure ?_))))))
  dsimp only
  obtain ⟨hx, hcl, hno, -⟩ := I
  obtain ⟨oc, odi, oda, osl⟩ := o
  dsimp only at hcl hx hd hq
  subst hcl
  unfold storeInOwnDict
  refine wpAny_bind (wpAny_pure ?_)
  refine bm_if_false rfl ?_
  refine wpAny_bind ?_
  show wpAny _ _ (instanceDict x true) _ _ _
  unfold instanceDict
  refine wpAny_bind (wpAny_loadPart hx ?_)
  dsimp only
  refine wpAny_bind ((looks_clsIn X hc).at ?_)
  rw [hd1]
  rcases hd with ⟨rfl, rfl⟩ | ⟨dx, rfl, hne, hns⟩
  · refine bm_if_false rfl ?_
    dsimp only
    refine bm_if_false rfl ?_
    split
    · cases hno
    · have hx₁ : (h.push { cls := .type "dict", data := .dict #[] }).get? x = some _ := Heap.get?_push_of_some _ hx
      have hxs : x ≠ h.objs.size := Nat.ne_of_lt (Heap.lt_size hx)
      refine wpAny_bind (wpAny_alloc' ?_)
      refine wpAny_bind (wpAny_update' hx₁ ?_)
      refine wpAny_pure ?_
      dsimp only
      have hgd : ((h.push { cls := .type "dict", data := .dict #[] }).update x fun o => { o with dict := some h.objs.size }).get? h.objs.size
          = some { cls := .type "dict", data := .dict #[] } :=
        (Heap.get?_update_ne _ _ _ _ hxs.symm).trans (Heap.get?_push_at rfl rfl)
      have hnd : ((h.push { cls := .type "dict", data := .dict #[] }).update x fun o => { o with dict := some h.objs.size }).Ns h.objs.size (fun _ => none) :=
        ⟨_, #[], _, hgd, rfl, fun e he => absurd he (by simp), fun _ => rfl⟩
      unfold storeInDict newKeyGuard
      refine wpAny_bind (wpAny_pure (wpAny_bind (wpAny_nsSet1 (Heap.Ns1.of_empty hnd) fun h' hn' hs => ?_)))
      obtain ⟨oD, esD, epD, hoD, hdD, hcD⟩ := hn'.count (PySem.Within.cons name v PySem.Within.nil)
      refine wpAny_bind (wpAny_lookBehind hoD (by rw [hdD]; exact pastItsLine_dict (Nat.le_trans hcD (by rw [List.length_cons, List.length_nil, sizeLine_eq]; omega))) ?_)
      refine wpAny_pure ?_
      refine hq h' _ h.objs.size ?_ hxs.symm hn' (fun _ => Heap.get?_none_of_le (Nat.le_refl _)) (fun _ e => nomatch e) (fun b ob hbx hbd hb => ?_)
      · refine (hs.2 x hxs).trans (Heap.get?_update_self _ hx₁ ?_)
        have hfr := (Heap.get?_some_iff.mp hx).2
        cases oda <;> first | rfl | exact hfr
      · exact (hs.2 b hbd).trans ((Heap.get?_update_ne _ _ _ _ hbx).trans (Heap.get?_push_of_some _ hb))
  · refine bm_if_false rfl ?_
    dsimp only
    refine wpAny_pure ?_
    dsimp only
    unfold storeInDict newKeyGuard
    refine wpAny_bind (wpAny_pure (wpAny_bind (wpAny_nsSet1 hns fun h' hn' hs => ?_)))
    obtain ⟨oD, esD, epD, hoD, hdD, hcD⟩ := hn'.count (PySem.Within.cons name v hw)
    refine wpAny_bind (wpAny_lookBehind hoD (by rw [hdD]; exact pastItsLine_dict (Nat.le_trans hcD (by rw [List.length_cons, sizeLine_eq]; omega))) ?_)
    refine wpAny_pure ?_
    refine hq h' _ dx ((hs.2 x hne.symm).trans hx) hne hn' (fun e => nomatch e) (fun _ e => Option.some.inj e) (fun b ob _ hbd hb => (hs.2 b hbd).trans hb)
/-- setattr of a field of an own exception -/
theorem set_exc {od : Option Obj} {c2 : Addr} {ns : List Str} {Q : Unit → Shared → Prop} (X : K.In h) (I : PySem.W.InstAt h x o C od) (hs : findIn K (.ref C) "__setattr__" = some (some (.builtin "object.__setattr__"))) (hc : clsIn K C = some cd) (hm : cd.mro = [.ref C, .ref c2, .type "Exception", .type "BaseException", .type "object"]) (hd1 : cd.hasDict = true)
    (ht : findIn K (.ref C) name = some none) (hd : (o.dict = none ∧ mA = fun _ => none) ∨ ∃ dx, o.dict = some dx ∧ dx ≠ x ∧ h.Ns1 dx mA) (hw : PySem.Within mA ns) (hsz : ns.length ≤ 100)
    (hq : ∀ h' tk' d', h'.get? x = some { o with dict := some d' } → d' ≠ x → h'.Ns1 d' (fun y => if y = name then some v else mA y) → (o.dict = none → h.get? d' = none) → (∀ dx, o.dict = some dx → d' = dx) →
      (∀ b ob, b ≠ x → b ≠ d' → h.get? b = some ob → h'.get? b = some ob) → Q () ⟨h', g, d, tk', os⟩) :
    wpAny (model prog w) A (setAttr (.ref x) name v) Q E ⟨h, g, d, t, os⟩ :=
  set_plain X I hs (osa_exc X I hc hm hd1 ht hd hw hsz fun h' tk' d' a b c e f k => hq h' tk' d' a b c e f k)
end
end Mine
end
section
open PySem PySem.W PyProof.Rows PySem.Calls
set_option maxRecDepth 100000
namespace Mine
section
variable {prog : Program} {w : World} {A : Around} {E : Value → Shared → Prop} {h : Heap} {g : Array GenState} {d : Drawn} {t : Nat} {os : OsState} {K : Frag} {x C : Addr} {cd : ClassData} {o : Obj}
theorem base_init {nm q : Str} {N : Addr} {bs bm : List Value} {hdct : Bool} {sn : List Str} {sub : List Value} {ab : Bool} {col : Option Bool} {dd : Option Addr} {k0 k1 k2 k3 k5 : Option Value} {newId : String} {rest : List Value} {vs : Array Value} {old : Value} {Q : Value → Shared → Prop}
    (hC : h.get? C = some (excClassObj nm q C N bs bm hdct sn sub ab col dd k0 k1 k2 k3 k5 newId)) (c1 : bm.contains (.type "Exception") = true) (hx : h.get? x = some o) (hcl : o.cls = .ref C)
    (hdat : o.data = .fields vs) (h0 : vs[0]? = some old) (hrest : rest.length ≤ 100)
    (hq : ∀ h' t', h'.get? x = some { o with data := .fields (vs.setIfInBounds 0 (.ref t')) } → (∀ b ob, b ≠ x → h.get? b = some ob → h'.get? b = some ob) → Q .none ⟨h', g, d, t, os⟩) :
    wpAny (model prog w) A (call (.builtin "Exception.__init__") (.ref x :: rest)) Q E ⟨h, g, d, t, os⟩ := by
  have SF := PySem.F.excBase_Exception
  have hcB : (Value.ref C :: bm).contains (.type "Exception") = true := by rw [List.contains_cons, c1, Bool.or_true]
  have hstar := SF.noStar
  refine wpAny_call (codeAny_call_builtin SF.init.plain SF.initEntry ?_)
  simp only [checkBuiltinCall, SF.initKind, SF.initSplit, SF.initRow]
  repeat (first | (with_reducible refine wpAny_loadPart_at hx ?_; rw [hcl]) | with_reducible refine wpAny_loadPart_at hC ?_ | (with_reducible refine wpAny_isSubtype_exc hC ?_; rw [hcB]) | wp_step)
  refine wpAny_onRaise ?_
  rw [show ∀ (a b : String) (n : Nat), Bind.check ⟨.positional, "*", "Exception", .self, [⟨"args", .varPos, false⟩]⟩ a b n (List.map (fun x => x.fst) ({ pos := Value.ref x :: rest } : Args).kw) = pure () from
    fun a b n => check_star_args _ _ _ _ _ _]
  refine wpAny_pure ?_
  unfold Builtin.«BaseException.__init__»
  refine bm_if_false rfl ?_
  refine wpAny_bind (wpAny_newTuple ?_ (by rw [sizeLine_eq]; omega))
  refine wpAny_bind ?_
  show wpAny _ _ (field (.ref x) 0 >>= _) _ _ _
  have hx₁ : (h.push { cls := .type "tuple", data := .seq rest.toArray }).get? x = some o := Heap.get?_push_of_some _ hx
  refine wpAny_bind (wpAny_field hx₁ hdat h0 ?_)
  refine wpAny_bind (wpAny_setField hx₁ hdat (by have := Array.getElem?_eq_some_iff.mp h0; exact this.1) ?_)
  have hx₂ : ((h.push { cls := .type "tuple", data := .seq rest.toArray }).update x (Obj.mapFields (·.setIfInBounds 0 (.ref h.objs.size)))).get? x = some { o with data := .fields (vs.setIfInBounds 0 (.ref h.objs.size)) } := by
    rw [Heap.get?_update_self _ hx₁ (Obj.isFreed_of_fields (Obj.data_mapFields hdat _))]
    obtain ⟨oc, odi, oda, osl⟩ := o
    dsimp only at hdat
    subst hdat
    rfl
  have fin : Q .none ⟨(h.push { cls := .type "tuple", data := .seq rest.toArray }).update x (Obj.mapFields (·.setIfInBounds 0 (.ref h.objs.size))), g, d, t, os⟩ :=
    hq _ _ hx₂ fun b ob hb e => (Heap.get?_update_ne _ _ _ _ hb).trans (Heap.get?_push_of_some _ e)
  split
  · exact wpAny_letGo (wpAny_pure fin)
  · exact wpAny_pure (wpAny_pure fin)
end
end Mine
end
section
open PySem PySem.W PyProof.Rows PySem.Calls
set_option maxRecDepth 100000
namespace Mine
section
variable {prog : Program} {w : World} {A₀ : Around} {E Q : Value → Shared → Prop} {s : Shared} {base h₀ : Heap} {outer : List Env} {L : Addr} {m : Str → Option Value} {K : Frag}
  {p : Program} {loose : List Str} {mean : ExcName → Option Value} {mg mb : Str → Option Value}
  {dp un : Nat} {gd : Option (List Code)} {cn : Str} {cs : Scope} {a : Addr} {ccd : Value} {cl : List (Str × Addr)}
  {name qual : Str} {params : Arguments} {body : List Stmt} {scope : Scope} {dV kV doc pm cdv ct oc : Value} {an od : Option Addr} {osl : Array (Option Value)} {f : Addr} {args : List Value} {binds : List (Str × Value)}
/-- a call that may change the object at e -/
theorem enter_hide (e : Addr) (he : h₀.get? e = none) (heL : e ≠ L) (B : Below A₀ base outer h₀) (F : Fr h₀ L s.heap m) (X : K.In h₀) (T : Top p loose mean mg mb h₀) (hk : cs.kind = .function)
    (ho : K.lookup f = some ⟨oc, od, .func (fnOf name qual params body scope dV kV doc pm an cdv ct), osl⟩) (hcd : codeIn K cdv qual = true) (hroom : dp < recursionLimit)
    (hbind : BindsTo s (fnOf name qual params body scope dV kV doc pm an cdv ct) ⟨args, []⟩ binds) (hloc : ∀ y ∈ binds, scope.names.lookup y.1 = some .local)
    (h : ∀ h₁ h₂, Fr h₂ s.heap.objs.size h₁ (fun y => binds.reverse.lookup y) → Kp s.heap h₁ → h₂.get? e = none → (∀ b o, b ≠ e → s.heap.get? b = some o → h₂.get? b = some o) →
      Below (ktrTop dp un gd cn cs L a ccd cl outer) base (envX cn cs L a ccd cl :: outer) h₂ → K.In h₂ → Top p loose mean mg mb h₂ →
      wpAny (model prog w) ((ktrTop dp un gd cn cs L a ccd cl outer).deeper (envOf qual scope s.heap.objs.size f cdv)) (execs body (envOf qual scope s.heap.objs.size f cdv))
        (fun fl s' => Q (match fl with | .ret v => v | _ => .none) s')
        (fun e s' => wpAny (model prog w) ((ktrTop dp un gd cn cs L a ccd cl outer).deeper (envOf qual scope s.heap.objs.size f cdv)) (leaving (envOf qual scope s.heap.objs.size f cdv) e)
          (fun _ s'' => E e s'') (fun e' s'' => E e' s'') s')
        { s with heap := h₁, toks := s.toks + binds.length })
    (hco : scope.isCoroutine = false := by rfl) (hgen : scope.isGenerator = false := by rfl) (hsk : scope.kind = .function := by rfl)
    (hcell : ∀ x ∈ scope.names, x.2 ≠ .cell := by decide) :
    wpAny (model prog w) (ktrTop dp un gd cn cs L a ccd cl outer) (call (.ref f) args) Q E s := by
  have get : ∀ b o, b ≠ e → s.heap.get? b = some o → (hideAll s.heap [e]).get? b = some o := fun b o q x => hideAll_get _ x (by simpa using q)
  have F₂ : Fr h₀ L (hideAll s.heap [e]) m := ⟨F.ns.at' fun o x => get _ o (Ne.symm heL) x, fun b o x => get b o (fun q => by rw [q, he] at x; cases x) (F.keep b o x), F.above⟩
  have B₁ : Below ((ktrTop dp un gd cn cs L a ccd cl outer)) base (envX cn cs L a ccd cl :: outer) (hideAll s.heap [e]) := by
    have B₂ := pushX (env := envX cn cs L a ccd cl) B F₂ rfl hk
    exact ⟨rfl, B₂.stays, B₂.frames⟩
  refine wpAny_call (codeAny_call_def (fd := fnOf name qual params body scope dV kV doc pm an cdv ct) (body := body) (binds := binds) hroom ((X.keeps F.keep) _ _ ho) rfl (T.nolimit.keeps F.keep)
    (codeRec_of (X.keeps F.keep) hcd) rfl hbind hcell hloc (fun h₁ hns hk₁ => ?_) hco hgen hsk)
  exact h h₁ (hideAll s.heap [e]) ⟨hns, fun b o x => hk₁ b o (of_hideAll _ x), by rw [hideAll_size]; exact Nat.le_refl _⟩ hk₁ (hideAll_none _ (.head _)) get B₁ (X.keeps F₂.keep) (T.keeps F₂.keep)
end
/-- as Gives; the object at e may be changed -/
noncomputable def GivesM (w : World) (mean : ExcName → Option Value) (mg mb : Str → Option Value) (e : Addr) (f : Addr) (vs : List Value) (s : Shared) (D U : Nat) (P : Value → Heap → Prop) : Prop :=
  ∀ (dp un : Nat) (gd : Option (List Code)) (cn : Str) (cs : Scope) (a : Addr) (ccd : Value) (cl : List (Str × Addr)) (outer : List Env) (A₀ : Around) (base h₀ : Heap) (L : Addr) (m : Str → Option Value) (Q E : Value → Shared → Prop),
    h₀.get? e = none → e ≠ L → Below A₀ base outer h₀ → Fr h₀ L s.heap m → (Mine.hd.heap_39 w.params).In h₀ → Top VW LO mean mg mb h₀ → cs.kind = .function → dp + D < recursionLimit → un + U < cLine →
    (∀ r h' tk, (∀ b o, b ≠ e → s.heap.get? b = some o → h'.get? b = some o) → P r h' → Q r { s with heap := h', toks := tk }) →
    wpAny (model PR w) (ktrTop dp un gd cn cs L a ccd cl outer) (call (.ref f) vs) Q E s
end Mine
end
section
open PySem PySem.W PyProof.Rows PySem.Calls
set_option maxRecDepth 100000
namespace Mine
section
variable {M : Model} {A : Around} {E : Value → Shared → Prop} {env : Env} {s : Shared}
theorem raise_own {nm q : Str} {C N : Addr} {bs bm : List Value} {hdct : Bool} {sn : List Str} {sub : List Value} {ab : Bool} {col : Option Bool} {dd : Option Addr} {k0 k1 k2 k3 k5 : Option Value} {newId : String} {x : Sem Value} {Q : Flow → Shared → Prop} (hbase : bm.contains (.type "BaseException") = true) (hh : A.handled = none)
    (h : wpAny M A x (fun v s₁ => ∃ e d t, v = .ref e ∧ s₁.heap.get? C = some (excClassObj nm q C N bs bm hdct sn sub ab col dd k0 k1 k2 k3 k5 newId) ∧
      s₁.heap.get? e = some { cls := .ref C, dict := some d, data := .fields #[.ref t, .none, .none, .none, .bool false, .none] } ∧ E (.ref e) s₁) E s) :
    wpAny M A (raiseStmt env (some x) none) Q E s := by
  have hcB : (Value.ref C :: bm).contains (.type "BaseException") = true := by rw [List.contains_cons, hbase, Bool.or_true]
  unfold raiseStmt
  refine wpAny_bind (wpAny_mono h (fun v s₁ h₁ => ?_) fun _ _ x => x)
  obtain ⟨e, dx, t, rfl, hC, he, hE⟩ := h₁
  obtain ⟨hp, g, d, tk, os⟩ := s₁
  repeat (first | with_reducible refine wpAny_loadPart_at he ?_ | with_reducible refine wpAny_loadPart_at hC ?_ | (with_reducible refine wpAny_isSubtype_exc hC ?_; rw [hcB]) | wp_step)
  exact wpAny_raiseNew_none hh hE
end
theorem mal_at {w : World} {h : Heap} (X : (Mine.hd.heap_39 w.params).In h) : h.get? 51 = some (excClassObj (Str.ofString "Malformed") (Str.ofString "Malformed") 51 50 [.ref 31] [.ref 31, .type "Exception", .type "BaseException", .type "object"] true [] [] false none none
    (some (.ref 35)) none (some (.str (Str.ofString "Malformed") 218)) (some (.str (Str.ofString "Malformed") 226)) (some (.bool true)) "Exception.__new__") := X 51 _ rfl
/-- what a raise of Malformed wants of its value -/
noncomputable def RaisM (w : World) (E : Value → Shared → Prop) (v : Value) (s₁ : Shared) : Prop :=
  ∃ e d t, v = .ref e ∧ (Mine.hd.heap_39 w.params).In s₁.heap ∧ s₁.heap.get? e = some { cls := .ref 51, dict := some d, data := .fields #[.ref t, .none, .none, .none, .bool false, .none] } ∧ E (.ref e) s₁
theorem Raise_row {w : World} {A : Around} {E : Value → Shared → Prop} {env : Env} {s : Shared} {e : Expr} {pos : Pos} {Q : Flow → Shared → Prop} (hh : A.handled = none) (h : wpAny (model PR w) A (eval e env) (RaisM w E) E s) :
    wpAny (model PR w) A (exec (.Raise (some e) none pos) env) Q E s := by
  show wpAny (model PR w) A (do standAt pos; raiseStmt env (some (do let v ← eval e env; standAt pos; pure v)) none) Q E s
  refine wpAny_bind (wpAny_standAt ?_)
  refine raise_own (nm := Str.ofString "Malformed") (q := Str.ofString "Malformed") (C := 51) (N := 50) (bs := [.ref 31]) (bm := [.ref 31, .type "Exception", .type "BaseException", .type "object"]) (hdct := true) (sn := []) (sub := []) (ab := false) (col := none) (dd := none)
    (k0 := some (.ref 35)) (k1 := none) (k2 := some (.str (Str.ofString "Malformed") 218)) (k3 := some (.str (Str.ofString "Malformed") 226)) (k5 := some (.bool true)) (newId := "Exception.__new__") (by decide) hh (wpAny_bind (wpAny_mono h (fun v s₁ h₁ => wpAny_bind (wpAny_standAt (wpAny_pure ?_))) fun _ _ x => x))
  obtain ⟨e, d, t, rfl, X, he, hE⟩ := h₁
  exact ⟨e, d, t, rfl, mal_at X, he, hE⟩
end Mine
end
section
open PySem PySem.W PyProof.Rows PySem.Calls
set_option maxRecDepth 100000
namespace Mine
/-- what stood stands, but for the objects of X and the slots of the frames fs -/
noncomputable def Stp (fs X : List Addr) (h h' : Heap) : Prop := ∀ b o, b ∉ X → h.get? b = some o → ∃ sl, h'.get? b = some { o with slots := sl } ∧ (b ∉ fs → sl = o.slots)
theorem Stp.trans {fs X : List Addr} {h₁ h₂ h₃ : Heap} (x : Stp fs X h₁ h₂) (y : Stp fs X h₂ h₃) : Stp fs X h₁ h₃ := fun b o hb e => by
  obtain ⟨s1, e1, q1⟩ := x b o hb e
  obtain ⟨s2, e2, q2⟩ := y b _ hb e1
  exact ⟨s2, e2, fun q => (q2 q).trans (q1 q)⟩
theorem Stp.mono {fs fs' X X' : List Addr} {h h' : Heap} (x : Stp fs X h h') (hf : ∀ b ∈ fs, b ∈ fs') (hX : ∀ b ∈ X, b ∈ X') : Stp fs' X' h h' := fun b o hb e => by
  obtain ⟨sl, e1, q⟩ := x b o (fun z => hb (hX b z)) e
  exact ⟨sl, e1, fun z => q fun y => z (hf b y)⟩
theorem Stp.of_but {fs X : List Addr} {h h' : Heap} (k : ∀ b o, b ∉ X → h.get? b = some o → h'.get? b = some o) : Stp fs X h h' := fun b o hb e => ⟨o.slots, k b o hb e, fun _ => rfl⟩
theorem Stp.frames {fs X : List Addr} {h h' base : Heap} {l : List Env} (x : Stp fs X h h') (hl : h.FunFrames base l) (hX : ∀ b ∈ X, ∃ o vs, h.get? b = some o ∧ o.data = .fields vs) : h'.FunFrames base l :=
  hl.of_keeps fun b o hb hnf => by
    obtain ⟨sl, e, _⟩ := x b o (fun z => by obtain ⟨o', vs, e1, e2⟩ := hX b z; rw [hb] at e1; cases e1; exact hnf vs e2) hb
    exact ⟨_, e, rfl⟩
section
variable {M : Model} {A : Around} {E : Value → Shared → Prop} {s : Shared}
theorem entry_step {base : Heap} {env : Env} {outer : List Env} {L e : Addr} {oe : Obj} {vs : Array Value} {head : Value} {hadNext : Bool} {Q : Unit → Shared → Prop}
    (hfr : A.frames = some (env :: outer)) (hl : s.heap.FunFrames base (env :: outer)) (hf : env.frame = some L) (he : s.heap.get? e = some oe) (hd : oe.data = .fields vs) (hsz : 1 < vs.size)
    (h : ∀ h' T ts, Stp ((env :: outer).filterMap (·.frame)) [e] s.heap h' → s.heap.get? T = none → T ≠ e → h'.get? e = some { oe with data := .fields (vs.setIfInBounds 1 (.ref T)) } → h'.get? T = some { cls := .type "traceback", data := .fields ts } → 3 < ts.size → ts[3]? = some (rawInt L) →
      Q () { s with heap := h' }) :
    wpAny M A (do let a ← frameOf env; let pl ← entryPlaceOf L hadNext; let b ← EntryCells.newEntry head a .none (rawInt L) .none pl; setField (.ref e) 1 b) Q E s := by
  have hene : e ∉ (env :: outer).filterMap (·.frame) := fun hm => by
    obtain ⟨_, o, ho, hnf⟩ := hl.mem hm
    rw [he] at ho; injection ho with ho; subst ho; exact hnf vs hd
  refine wpAny_bind (wpAny_frameOf_fun hfr hl hf fun h₁ hs₁ => ?_)
  refine wpAny_bind (wpAny_entryPlaceOf fun pl hpl => ?_)
  unfold EntryCells.newEntry newFields
  refine wpAny_bind (wpAny_newObj_type ?_ (hpl.sizeOk5 _ _ _ _ _))
  have he₁ : h₁.get? e = some oe := (hs₁.2.1 e hene).trans he
  generalize htb : ([head, .ref L, .none, rawInt L, .none] ++ (if pl.isEmpty then List.replicate 6 Value.none else pl)).toArray = ts
  have h3 : ts[3]? = some (rawInt L) := by subst htb; simp
  have he₂ := Heap.get?_push_of_some (h := h₁) { cls := .type "traceback", dict := none, data := .fields ts } he₁
  refine wpAny_setField he₂ hd hsz ?_
  have hTe : h₁.objs.size ≠ e := Nat.ne_of_gt (Heap.lt_size he₁)
  have hd₃ := Obj.data_mapFields hd (·.setIfInBounds 1 (Value.ref h₁.objs.size))
  have he₃ := Heap.get?_update_self (Obj.mapFields (·.setIfInBounds 1 (Value.ref h₁.objs.size))) he₂ (Obj.isFreed_of_fields hd₃)
  have hT₃ := (Heap.get?_update_other (h₁.push { cls := .type "traceback", dict := none, data := .fields ts })
    (Obj.mapFields (·.setIfInBounds 1 (Value.ref h₁.objs.size))) (Ne.symm hTe)).trans (Heap.get?_push_size h₁ rfl)
  refine h _ h₁.objs.size ts (fun b o hb x => ?_) (Heap.get?_none_of_le (by rw [hs₁.1]; exact Nat.le_refl _)) hTe ?_ hT₃ (Array.getElem?_eq_some_iff.mp h3).1 h3
  · obtain ⟨sl, e1⟩ := hs₁.2.2 b o x
    refine ⟨sl, ?_, fun q => ?_⟩
    · rw [Heap.get?_update_other _ _ (fun q => hb (by rw [← q]; exact .head _))]
      exact Heap.get?_push_of_some _ e1
    · have := (hs₁.2.1 b q).trans x
      rw [e1] at this
      exact congrArg Obj.slots (Option.some.inj this)
  · rw [he₃]
    obtain ⟨oc, odi, oda, osl⟩ := oe
    dsimp only at hd
    subst hd
    rfl
/-- an exception whose traceback's head is tb -/
theorem note_first {base : Heap} {env : Env} {outer : List Env} {L e : Addr} {oe : Obj} {vs : Array Value} {Q : Unit → Shared → Prop}
    (hfr : A.frames = some (env :: outer)) (hl : s.heap.FunFrames base (env :: outer)) (hf : env.frame = some L) (he : s.heap.get? e = some oe) (hd : oe.data = .fields vs) (h1 : vs[1]? = some .none)
    (h : ∀ h' T ts, Stp ((env :: outer).filterMap (·.frame)) [e] s.heap h' → s.heap.get? T = none → T ≠ e → h'.get? e = some { oe with data := .fields (vs.setIfInBounds 1 (.ref T)) } → h'.get? T = some { cls := .type "traceback", data := .fields ts } → 3 < ts.size → ts[3]? = some (rawInt L) →
      Q () { s with heap := h' }) :
    wpAny M A (noteFrame (.ref e) env) Q E s := by
  unfold noteFrame
  simp only [hf]
  refine wpAny_bind (wpAny_field he hd h1 ?_)
  rw [if_neg (by decide)]
  exact entry_step hfr hl hf he hd (Array.getElem?_eq_some_iff.mp h1).1 h
theorem note_next {base : Heap} {env : Env} {outer : List Env} {L e T₀ : Addr} {oe oT : Obj} {vs ts₀ : Array Value} {Q : Unit → Shared → Prop}
    (hfr : A.frames = some (env :: outer)) (hl : s.heap.FunFrames base (env :: outer)) (hf : env.frame = some L) (he : s.heap.get? e = some oe) (hd : oe.data = .fields vs) (h1 : vs[1]? = some (.ref T₀))
    (hT : s.heap.get? T₀ = some oT) (hTd : oT.data = .fields ts₀) (h3 : ts₀[3]? = some .none) (hTe : T₀ ≠ e)
    (h : ∀ h' T ts, Stp ((env :: outer).filterMap (·.frame)) [e, T₀] s.heap h' → s.heap.get? T = none → T ≠ e → h'.get? e = some { oe with data := .fields (vs.setIfInBounds 1 (.ref T)) } → h'.get? T = some { cls := .type "traceback", data := .fields ts } → 3 < ts.size → ts[3]? = some (rawInt L) →
      Q () { s with heap := h' }) :
    wpAny M A (noteFrame (.ref e) env) Q E s := by
  unfold noteFrame
  simp only [hf]
  refine wpAny_bind (wpAny_field he hd h1 ?_)
  rw [if_pos (show (Value.ref T₀ != Value.none) = true from by simp)]
  refine wpAny_bind (wpAny_field hT hTd h3 ?_)
  rw [if_neg (show ¬ ((Value.none == rawInt L) = true) from by simp [rawInt])]
  refine wpAny_bind (wpAny_setField hT hTd (Array.getElem?_eq_some_iff.mp h3).1 ?_)
  have other : ∀ b, b ≠ T₀ → (s.heap.update T₀ (Obj.mapFields (·.setIfInBounds 3 Value.none))).get? b = s.heap.get? b := fun b hb => Heap.get?_update_other _ _ (Ne.symm hb)
  have st : Stp ((env :: outer).filterMap (·.frame)) [e, T₀] s.heap (s.heap.update T₀ (Obj.mapFields (·.setIfInBounds 3 Value.none))) := Stp.of_but fun b o hb x => (other b fun q => hb (by simp [q])).trans x
  have hl' := Stp.frames (X := [T₀]) (fs := []) (Stp.of_but fun b o hb x => (other b fun q => hb (by simp [q])).trans x) hl (fun b hb => by rw [List.mem_singleton.mp hb]; exact ⟨_, _, hT, hTd⟩)
  refine entry_step hfr hl' hf ((other e (Ne.symm hTe)).trans he) hd (Array.getElem?_eq_some_iff.mp h1).1 fun h' T ts a b c d e' f g => h h' T ts (st.trans (a.mono (fun _ z => z) (by simp))) ?_ c d e' f g
  rw [← other T (fun q => ?_)]
  · exact b
  · subst q
    have := Heap.get?_update_self (Obj.mapFields (·.setIfInBounds 3 Value.none)) hT (Obj.isFreed_of_fields (Obj.data_mapFields hTd _))
    rw [this] at b
    cases b
theorem flight_none {e T : Addr} {oe oT : Obj} {vs ts : Array Value} {Q : Unit → Shared → Prop} (he : s.heap.get? e = some oe) (hd : oe.data = .fields vs) (h1 : vs[1]? = some (.ref T)) (hT : s.heap.get? T = some oT) (hTd : oT.data = .fields ts) (h3 : 3 < ts.size)
    (h : ∀ h', Stp [] [T] s.heap h' → h'.get? T = some { oT with data := .fields (ts.setIfInBounds 3 .none) } → Q () { s with heap := h' }) : wpAny M A (setFlight (.ref e) none) Q E s := by
  unfold setFlight
  refine wpAny_bind (wpAny_field he hd h1 ?_)
  rw [if_pos (show (Value.ref T != Value.none) = true from by simp)]
  refine wpAny_setField hT hTd h3 (h _ (Stp.of_but fun b o hb x => (Heap.get?_update_other _ _ (fun q => hb (by simp [q]))).trans x) ?_)
  rw [Heap.get?_update_self _ hT (Obj.isFreed_of_fields (Obj.data_mapFields hTd _))]
  obtain ⟨oc, odi, oda, osl⟩ := oT
  dsimp only at hTd
  subst hTd
  rfl
end
end Mine
end
section
open PySem PySem.W PyProof.Rows PySem.Calls
set_option maxRecDepth 100000
namespace Mine
/-- Malformed e flies, seen from the heap g: its dict is d, of the fields mA -/
structure Flw (g : Heap) (fs : List Addr) (e d : Addr) (mA : Str → Option Value) (h : Heap) : Prop where
  up : Stp fs [] g h
  he : g.get? e = none
  hd : g.get? d = none
  obj : ∃ t T ts, h.get? e = some { cls := .ref 51, dict := some d, data := .fields #[.ref t, .ref T, .none, .none, .bool false, .none] } ∧ T ≠ e ∧ g.get? T = none ∧ h.get? T = some { cls := .type "traceback", data := .fields ts } ∧ ts[3]? = some .none
  ns : h.Ns1 d mA
  ne : d ≠ e
theorem Stp.ns1 {fs X : List Addr} {h h' : Heap} {a : Addr} {m : Str → Option Value} (x : Stp fs X h h') (hn : h.Ns1 a m) (ha : a ∉ X) : h'.Ns1 a m := by
  obtain ⟨o, es, ep, e, hd, r⟩ := hn
  obtain ⟨sl, e1, _⟩ := x a o ha e
  exact ⟨_, es, ep, e1, hd, r⟩
theorem Stp.ns {fs X : List Addr} {h h' : Heap} {a : Addr} {m : Str → Option Value} (x : Stp fs X h h') (hn : h.Ns a m) (ha : a ∉ X) : h'.Ns a m := by
  obtain ⟨o, es, ep, e, hd, r⟩ := hn
  obtain ⟨sl, e1, _⟩ := x a o ha e
  exact ⟨_, es, ep, e1, hd, r⟩
section
variable {M : Model} {A : Around} {E : Value → Shared → Prop} {s : Shared}
theorem leave_first {base g : Heap} {env : Env} {outs : List Env} {L e d t : Addr} {mA : Str → Option Value} {Q : Unit → Shared → Prop}
    (hfr : A.frames = some (env :: outs)) (hl : s.heap.FunFrames base (env :: outs)) (hf : env.frame = some L) (hL : g.get? L = none) (k : Kp g s.heap)
    (he : s.heap.get? e = some { cls := .ref 51, dict := some d, data := .fields #[.ref t, .none, .none, .none, .bool false, .none] }) (heg : g.get? e = none) (hdg : g.get? d = none) (hde : d ≠ e) (hns : s.heap.Ns1 d mA)
    (h : ∀ h', Flw g (outs.filterMap (·.frame)) e d mA h' → Q () { s with heap := h' }) : wpAny M A (leaving env (.ref e)) Q E s := by
  unfold leaving
  refine wpAny_bind (note_first hfr hl hf he rfl rfl fun h₁ T ts st hTn hTe he₁ hT₁ h3 h4 => ?_)
  refine flight_none (s := { s with heap := h₁ }) he₁ rfl (T := T) (by rfl) hT₁ rfl h3 fun h₂ st2 hT₂ => ?_
  have hdT : d ≠ T := fun q => by obtain ⟨o, _, _, e1, _⟩ := hns; rw [q, hTn] at e1; cases e1
  have hgT : g.get? T = none := by
    cases q : g.get? T with
    | none => rfl
    | some o => have := k _ _ q; rw [hTn] at this; cases this
  refine h h₂ ⟨fun b o _ x => ?_, heg, hdg, ?_, st2.ns1 (st.ns1 hns (by simpa using hde)) (by simpa using hdT), hde⟩
  · have hbe : b ≠ e := fun q => by rw [q, heg] at x; cases x
    have hbT : b ≠ T := fun q => by rw [q, hgT] at x; cases x
    have hbL : b ≠ L := fun q => by rw [q, hL] at x; cases x
    obtain ⟨s1, e1, q1⟩ := st b o (by simpa using hbe) (k b o x)
    obtain ⟨s2, e2, q2⟩ := st2 b _ (by simpa using hbT) e1
    refine ⟨s2, e2, fun q => (q2 (by simp)).trans (q1 ?_)⟩
    rw [List.filterMap_cons, hf]
    intro z
    rcases List.mem_cons.mp z with z | z
    · exact hbL z
    · exact q z
  · obtain ⟨s2, e2, q2⟩ := st2 e _ (by simpa using (Ne.symm hTe)) he₁
    rw [q2 (by simp)] at e2
    exact ⟨t, T, _, e2, hTe, hgT, hT₂, by simp [h3]⟩
theorem leave_next {base g g' : Heap} {env : Env} {outs : List Env} {L e d : Addr} {mA : Str → Option Value} {Q : Unit → Shared → Prop}
    (hfr : A.frames = some (env :: outs)) (hl : g'.FunFrames base (env :: outs)) (hf : env.frame = some L) (hL : g.get? L = none) (k : Kp g g') (X : Flw g' ((env :: outs).filterMap (·.frame)) e d mA s.heap)
    (h : ∀ h', Flw g (outs.filterMap (·.frame)) e d mA h' → Q () { s with heap := h' }) : wpAny M A (leaving env (.ref e)) Q E s := by
  obtain ⟨up, heg, hdg, ⟨t, T₀, ts₀, he, hT0e, hT0g, hT0, h30⟩, hns, hde⟩ := X
  have hl₁ : s.heap.FunFrames base (env :: outs) := Stp.frames up hl (fun b hb => nomatch hb)
  unfold leaving
  refine wpAny_bind (note_next hfr hl₁ hf he rfl rfl hT0 rfl h30 hT0e fun h₁ T ts st hTn hTe he₁ hT₁ h3 h4 => ?_)
  refine flight_none (s := { s with heap := h₁ }) he₁ rfl (T := T) (by rfl) hT₁ rfl h3 fun h₂ st2 hT₂ => ?_
  have gn : ∀ {b}, g'.get? b = none → g.get? b = none := fun {b} q => by
    cases z : g.get? b with
    | none => rfl
    | some o => have := k _ _ z; rw [q] at this; cases this
  have hgT : g'.get? T = none := by
    cases q : g'.get? T with
    | none => rfl
    | some o => obtain ⟨_, e1, _⟩ := up _ _ (by simp) q; rw [hTn] at e1; cases e1
  have hdT : d ≠ T := fun q => by obtain ⟨o, _, _, e1, _⟩ := hns; rw [q, hTn] at e1; cases e1
  have hdT0 : d ≠ T₀ := fun q => by
    obtain ⟨o, _, _, e1, e2, _⟩ := hns
    rw [q, hT0] at e1
    cases e1
    cases e2
  refine h h₂ ⟨fun b o _ x => ?_, gn heg, gn hdg, ?_, st2.ns1 (st.ns1 hns (by simp [hde, hdT0])) (by simpa using hdT), hde⟩
  · have hbe : b ≠ e := fun q => by rw [q, gn heg] at x; cases x
    have hbT : b ≠ T := fun q => by rw [q, gn hgT] at x; cases x
    have hbT0 : b ≠ T₀ := fun q => by rw [q, gn hT0g] at x; cases x
    have hbL : b ≠ L := fun q => by rw [q, hL] at x; cases x
    have nf : b ∉ outs.filterMap (·.frame) → b ∉ (env :: outs).filterMap (·.frame) := by
      rw [List.filterMap_cons, hf]
      intro q z
      rcases List.mem_cons.mp z with z | z
      · exact hbL z
      · exact q z
    obtain ⟨s0, e0, q0⟩ := up b o (by simp) (k b o x)
    obtain ⟨s1, e1, q1⟩ := st b _ (by simp [hbe, hbT0]) e0
    obtain ⟨s2, e2, q2⟩ := st2 b _ (by simpa using hbT) e1
    exact ⟨s2, e2, fun q => (q2 (by simp)).trans ((q1 (nf q)).trans (q0 (nf q)))⟩
  · obtain ⟨s2, e2, q2⟩ := st2 e _ (by simpa using (Ne.symm hTe)) he₁
    rw [q2 (by simp)] at e2
    exact ⟨t, T, _, e2, hTe, gn hgT, hT₂, by simp [h3]⟩
end
end Mine
end
section
open PySem PySem.W PyProof.Rows PySem.Calls
set_option maxRecDepth 100000
namespace Mine
section
variable {prog : Program} {w : World} {A : Around} {E : Value → Shared → Prop} {R : Result → Shared → Prop} {h : Heap} {g : Array GenState} {dr : Drawn} {t : Nat} {os : OsState} {K : Frag} {x C d : Addr} {cd : ClassData} {fs : Array Value} {sl : Array (Option Value)} {name : Str} {v : Value} {mA : Str → Option Value}
/-- a field of an own exception is read -/
theorem find_exc {M : Model} {Q : PySem.Builtin.ObjectAttr.Found → Shared → Prop} (X : K.In h) (hx : h.get? x = some ⟨.ref C, some d, .fields fs, sl⟩) (hc : clsIn K C = some cd) (hd1 : cd.hasDict = true)
    (ht : findIn K (.ref C) name = some none) (hn : h.Ns1 d mA) (hv : mA name = some v) (hq : Q (.value v) ⟨h, g, dr, t, os⟩) : wpAny M A (PySem.Builtin.ObjectAttr.find (.ref x) (.ref C) name) Q E ⟨h, g, dr, t, os⟩ := by
  unfold PySem.Builtin.ObjectAttr.find
  refine wpAny_bind ((looks_findIn X ht).at ?_)
  refine wpAny_bind (wpAny_pure ?_)
  refine wpAny_bind (wpAny_pure ?_)
  unfold PySem.Builtin.ObjectAttr.ownThenClass PySem.Builtin.ObjectAttr.inOwnDict PySem.Builtin.ObjectAttr.ownDict
  refine wpAny_bind (wpAny_bind (wpAny_bind (wpAny_loadPart hx ?_)))
  show wpAny _ _ (instanceDict x false) _ _ _
  unfold instanceDict
  refine wpAny_bind (wpAny_loadPart hx ?_)
  dsimp only
  refine wpAny_bind ((looks_clsIn X hc).at ?_)
  rw [hd1]
  refine bm_if_false rfl ?_
  refine wpAny_pure ?_
  show wpAny _ _ (nsGet d name) _ _ _
  refine wpAny_nsGet hn.ns ?_
  rw [hv]
  exact wpAny_bind (wpAny_rule (wpAny_pure hq))
theorem get_exc {ex : Bool} {bm : List Value} {Q : Value → Shared → Prop} (X : K.In h) (hx : h.get? x = some ⟨.ref C, some d, .fields fs, sl⟩) (hc : clsIn K C = some cd) (hd1 : cd.hasDict = true) (hm : cd.mro = bm) (hb : bm.contains (.type "BaseException") = true) (hne : bm.isEmpty = false)
    (hga : findIn K (.ref C) "__getattribute__" = some (some (.builtin "BaseException.__getattribute__"))) (hk : findIn K (.ref C) "__getattr__" = some none)
    (ht : findIn K (.ref C) name = some none) (hn : h.Ns1 d mA) (hv : mA name = some v) (hh : handedIn v = true) (hq : Q v ⟨h, g, dr, t + 1, os⟩) : wpAny (model prog w) A (getAttr (.ref x) name ex) Q E ⟨h, g, dr, t, os⟩ := by
  have hT : Looks (model prog w) h (typeOf (.ref x)) (.ref C) := (Looks.ld hx).andThen .now
  have sub : Looks (model prog w) h (isInstance (.ref x) (.type "BaseException")) true := hT.andThen (looks_mroIn X (by unfold mroIn; rw [hc, Option.bind_some, hm, if_neg (by rw [hne]; decide), hb]))
  unfold getAttr getAttrBy
  refine wpAny_bind (wpAny_mkText (wpAny_holding (wpAny_bind (hT.at (wpAny_bind ((looks_findIn X hga).at ?_))))))
  dsimp only
  refine bm_if_false (by rw [show (Value.builtin "BaseException.__getattribute__" == Value.builtin "object.__getattribute__") = false by decide +kernel, Bool.and_false]) ?_
  unfold getAttrByItsOwn hookBefore
  refine wpAny_bind ?_
  refine bm_if_true rfl ?_
  refine (looks_findIn X hk).at ?_
  refine wpAny_bind (wpAny_attempt (wpAny_holding ?_))
  unfold callGetattribute
  refine bm_if_false (by cases ex <;> rfl) ?_
  unfold boundAndCalled
  refine wpAny_bind (wpAny_of_eq (PySem.F.attr_Exception.ga.bind (.ref x)) ?_)
  refine wpAny_call ?_
  refine codeAny_call_builtin PySem.F.attr_Exception.ga.plain F.entry_bexc_ga (@check_slot (model prog w) _ _ ⟨h, g, dr, t + 1, os⟩ "BaseException.__getattribute__" "BaseException" "__getattribute__" (.ref x) [.str name t] [] _ (by decide +kernel) (by decide +kernel) sub (F.args_bexc_ga (.ref x) (.str name t)) ?_)
  unfold Builtin.«object.__getattribute__»
  refine wpAny_bind (wpAny_pure ?_)
  refine wpAny_bind (wpAny_pure ?_)
  refine wpAny_bind (hT.at ?_)
  refine wpAny_bind (find_exc X hx hc hd1 ht hn hv ?_)
  refine wpAny_pure ?_
  show wpAny _ _ (handedOut v) _ _ _
  rw [handedOut_of hh]
  exact wpAny_pure hq
/-- except C as n, of an own exception of just that class -/
theorem handle_self_as {nm q : Str} {N : Addr} {bs bm : List Value} {hdct : Bool} {sn : List Str} {sub : List Value} {ab : Bool} {col : Option Bool} {dd : Option Addr} {k0 k1 k2 k3 k5 : Option Value} {newId : String} {env : Env} {s : Shared} {oe : Obj} {te : Expr} {n : Str} {b₀ : Stmt} {suite : List Stmt} {pos : Pos} {rest : List ExceptHandler} {Q : Flow → Shared → Prop}
    (hbase : bm.contains (.type "BaseException") = true)
    (h : wpAny (model prog w) (A.mark (some (.ref x))) (eval te env) (fun c s₁ => c = .ref C ∧ s₁.heap.get? C = some (excClassObj nm q C N bs bm hdct sn sub ab col dd k0 k1 k2 k3 k5 newId) ∧ s₁.heap.get? x = some oe ∧ oe.cls = .ref C ∧
      wpAny (model prog w) (A.mark (some (.ref x))) (setFlight (.ref x) none) (fun _ s₂ =>
          wpAny (model prog w) (A.mark (some (.ref x))) (storeName env n (.ref x)) (fun _ s₃ =>
            wpAny (model prog w) (A.mark (some (.ref x))) (execs (b₀ :: suite) env)
              (fun f s₄ => wpAny (model prog w) A (do bindName env n .none; unbindBehindTheSuite env n pos) (fun _ s₅ => Q f s₅) E s₄)
              (fun _ _ => False) s₃) (fun _ _ => False) s₂) (fun _ _ => False) s₁) (fun _ _ => False) s) :
    wpAny (model prog w) A (handleBy (.ref x) env (.ExceptHandler (some te) (some n) (b₀ :: suite) pos :: rest)) Q E s := by
  refine wpAny_handleBy_cons (codeAny_handlers_test (wpAny_mono h (fun c s₁ h₁ => ?_) fun _ _ z => z.elim)) (by intro q; cases q)
  obtain ⟨rfl, hC, he, hcl, hk⟩ := h₁
  obtain ⟨hp, g, d, tk, os⟩ := s₁
  refine wpAny_excMatches_sub_self hC he hcl hbase ?_
  refine codeAny_handlers_suite_as (wpAny_mono hk (fun _ s₂ h₂ => wpAny_mono h₂ (fun _ s₃ h₃ => wpAny_mono h₃ (fun f s₄ h₄ => h₄) fun _ _ z => z.elim) fun _ _ z => z.elim) fun _ _ z => z.elim)
end
end Mine
end
section
open PySem PySem.W PyProof.Rows PySem.Calls
set_option maxRecDepth 100000
namespace Mine
section
variable {M : Model} {A : Around} {E : Value → Shared → Prop} {s : Shared}
/-- Malformed comes to a try of the caller: its frame is noted, its flight ends -/
theorem note_catch {base g' : Heap} {env : Env} {outs : List Env} {L e d : Addr} {mA : Str → Option Value} {Q : Shared → Prop}
    (hfr : A.frames = some (env :: outs)) (hl : g'.FunFrames base (env :: outs)) (hf : env.frame = some L) (X : Flw g' ((env :: outs).filterMap (·.frame)) e d mA s.heap)
    (h : ∀ h', Flw g' ((env :: outs).filterMap (·.frame)) e d mA h' → Q { s with heap := h' }) :
    wpAny M A (noteFrame (.ref e) env) (fun _ s₂ => wpAny M A (setFlight (.ref e) none) (fun _ s₃ => Q s₃) E s₂) E s := by
  obtain ⟨up, heg, hdg, ⟨t, T₀, ts₀, he, hT0e, hT0g, hT0, h30⟩, hns, hde⟩ := X
  have hl₁ : s.heap.FunFrames base (env :: outs) := Stp.frames up hl (fun b hb => nomatch hb)
  refine note_next hfr hl₁ hf he rfl rfl hT0 rfl h30 hT0e fun h₁ T ts st hTn hTe he₁ hT₁ h3 h4 => ?_
  refine flight_none (s := { s with heap := h₁ }) he₁ rfl (T := T) (by rfl) hT₁ rfl h3 fun h₂ st2 hT₂ => ?_
  have hgT : g'.get? T = none := by
    cases q : g'.get? T with
    | none => rfl
    | some o => obtain ⟨_, e1, _⟩ := up _ _ (by simp) q; rw [hTn] at e1; cases e1
  have hdT : d ≠ T := fun q => by obtain ⟨o, _, _, e1, _⟩ := hns; rw [q, hTn] at e1; cases e1
  have hdT0 : d ≠ T₀ := fun q => by
    obtain ⟨o, _, _, e1, e2, _⟩ := hns
    rw [q, hT0] at e1
    cases e1
    cases e2
  refine h h₂ ⟨fun b o _ x => ?_, heg, hdg, ?_, st2.ns1 (st.ns1 hns (by simp [hde, hdT0])) (by simpa using hdT), hde⟩
  · have hbe : b ≠ e := fun q => by rw [q, heg] at x; cases x
    have hbT : b ≠ T := fun q => by rw [q, hgT] at x; cases x
    have hbT0 : b ≠ T₀ := fun q => by rw [q, hT0g] at x; cases x
    obtain ⟨s0, e0, q0⟩ := up b o (by simp) x
    obtain ⟨s1, e1, q1⟩ := st b _ (by simp [hbe, hbT0]) e0
    obtain ⟨s2, e2, q2⟩ := st2 b _ (by simpa using hbT) e1
    exact ⟨s2, e2, fun q => (q2 (by simp)).trans ((q1 q).trans (q0 q))⟩
  · obtain ⟨s2, e2, q2⟩ := st2 e _ (by simpa using (Ne.symm hTe)) he₁
    rw [q2 (by simp)] at e2
    exact ⟨t, T, _, e2, hTe, hgT, hT₂, by simp [h3]⟩
end
noncomputable def freedObj : Obj := ⟨.none, none, .freed, #[]⟩
/-- h, at the objects of g alone -/
noncomputable def mask (g h : Heap) : Heap := ⟨Array.ofFn (n := g.objs.size) fun i => if (g.get? i.val).isSome then (h.get? i.val).getD freedObj else freedObj, {}⟩
theorem mask_get (g h : Heap) (b : Addr) : (mask g h).get? b = if (g.get? b).isSome then h.get? b else none := by
  by_cases hb : b < g.objs.size
  · have e : (mask g h).objs[b]? = some (if (g.get? b).isSome then (h.get? b).getD freedObj else freedObj) := by
      unfold mask
      rw [Array.getElem?_ofFn, dif_pos hb]
    have e2 : (mask g h).get? b = match (mask g h).objs[b]? with | some ⟨_, _, .freed, _⟩ => none | o => o := rfl
    rw [e2, e]
    by_cases q : (g.get? b).isSome = true
    · rw [if_pos q, if_pos q]
      cases z : h.get? b with
      | none => rfl
      | some o =>
        have hf := (Heap.get?_some_iff.mp z).2
        obtain ⟨c, d, dt, sl⟩ := o
        cases dt <;> first | rfl | cases hf
    · rw [if_neg q, if_neg q]; rfl
  · have q : g.get? b = none := Heap.get?_none_of_le (Nat.le_of_not_lt hb)
    rw [q]
    exact Heap.get?_none_of_le (by show (mask g h).objs.size ≤ b; unfold mask; rw [Array.size_ofFn]; exact Nat.le_of_not_lt hb)
/-- behind a raise that was caught: a lower heap of the frame, of the objects that stood -/
theorem mask_fr {A : Around} {base h₀ g h : Heap} {outs : List Env} {L : Addr} {m : Str → Option Value} {env : Env} (B : Below A base outs h₀) (F : Fr h₀ L g m) (hl : g.FunFrames base (env :: outs)) (x : Stp ((env :: outs).filterMap (·.frame)) [] g h) :
    ∃ b', Fr b' L h m ∧ (∀ b o, base.get? b = some o → b'.get? b = some o) ∧ (∀ b o, b'.get? b = some o → ∃ o0, h₀.get? b = some o0) ∧
      (∀ b o, h₀.get? b = some o → ∃ sl, b'.get? b = some { o with slots := sl } ∧ (b ∉ (env :: outs).filterMap (·.frame) → sl = o.slots)) := by
  have up : ∀ b o, h₀.get? b = some o → ∃ sl, (mask h₀ h).get? b = some { o with slots := sl } ∧ (b ∉ (env :: outs).filterMap (·.frame) → sl = o.slots) := fun b o e => by
    obtain ⟨sl, e1, q⟩ := x b o (by simp) (F.keep b o e)
    exact ⟨sl, by rw [mask_get, e]; exact e1, q⟩
  refine ⟨mask h₀ h, ⟨x.ns F.ns (by simp), fun b o e => ?_, ?_⟩, fun b o e => ?_, fun b o e => ?_, up⟩
  · rw [mask_get] at e
    split at e
    · exact e
    · cases e
  · exact Nat.le_trans (by show (mask h₀ h).objs.size ≤ _; unfold mask; rw [Array.size_ofFn]; exact Nat.le_refl _) F.above
  · obtain ⟨sl, e1, q⟩ := up b o (B.stays b o e)
    rw [e1, q (fun hm => by have := (hl.mem hm).1; rw [e] at this; cases this)]
  · rw [mask_get] at e
    cases z : h₀.get? b with
    | none => rw [z] at e; cases e
    | some o0 => exact ⟨o0, rfl⟩
end Mine
end
section
open PySem PySem.W PyProof.Rows PySem.Calls
set_option maxRecDepth 100000
namespace Mine
section
variable {prog : Program} {w : World} {A : Around} {E : Value → Shared → Prop} {s : Shared} {h₀ h : Heap} {L D b : Addr} {m : Str → Option Value} {news : List (Addr × Obj)} {news' : Nat → List (Addr × Obj)} {vd vb : List Value} {n n2 : Nat}
/-- whole.extend(form), the form a list that stands anywhere -/
theorem ext_at {Q : Value → Shared → Prop} (F : Fr h₀ L s.heap m) (N : News h₀ L s.heap news) (hb : s.heap.get? b = some (W.listOf vb.toArray n2)) (hsz : vd.length + vb.length ≤ 1000)
    (U : ∀ k, Upd D (W.listOf vd.toArray n) (W.listOf (vd ++ vb).toArray k) news (news' k))
    (h : ∀ h' k, Fr h₀ L h' m → News h₀ L h' (news' k) → Q .none { s with heap := h' }) : wpAny (model prog w) A (call (.builtin "list.extend") [.ref D, .ref b]) Q E s := by
  have hd : ¬(!vd.toArray.isEmpty && Builtin.List.listTooLong (vd.toArray.size + vb.toArray.size)) = true := by
    unfold Builtin.List.listTooLong
    rw [List.size_toArray, List.size_toArray, decide_eq_false (by rw [PySem.sizeLine_eq]; omega), Bool.and_false]
    decide
  have z0 : vd.toArray.size ≤ sizeLine := by rw [List.size_toArray, PySem.sizeLine_eq]; omega
  have z2 : vd.toArray.size + vb.toArray.size ≤ sizeLine + 1 := by rw [List.size_toArray, List.size_toArray, PySem.sizeLine_eq]; omega
  have key : ∃ k, News h₀ L (s.heap.update D (Obj.mapSeq fun x => x ++ vb.toArray)) (news' k) ∧ ∃ o, s.heap.get? D = some o ∧ o = W.listOf vd.toArray n ∧ D ≠ L ∧ h₀.get? D = none := by
    cases vb with
    | nil =>
      obtain ⟨pre, post, e1, e2, a, c⟩ := (U n).split
      have z := N (D, W.listOf vd.toArray n) (by rw [e1]; exact List.mem_append.mpr (.inr (.head _)))
      refine ⟨n, ?_, _, z.1, rfl, z.2.1, z.2.2⟩
      rw [e2]
      exact kl_turn0 (fun x => x ++ [].toArray) (e1 ▸ N) a c (by simp) (by simp)
    | cons v vb =>
      obtain ⟨pre, post, e1, e2, a, c⟩ := (U (n + 1)).split
      have z := N (D, W.listOf vd.toArray n) (by rw [e1]; exact List.mem_append.mpr (.inr (.head _)))
      refine ⟨n + 1, ?_, _, z.1, rfl, z.2.1, z.2.2⟩
      rw [e2]
      exact kl_turn (fun x => x ++ (v :: vb).toArray) (e1 ▸ N) a c (by simp) (by simp)
  obtain ⟨k, N', _, hD, rfl, hDL, hD0⟩ := key
  exact call_meets PySem.F.slot_list_extend ⟨_, hD, rfl⟩ PySem.F.entry_list_extend (PySem.F.args_list_extend_2 _ _) (PySem.AutoSeq1.list_extend_list_list_0 D vd.toArray n b vb.toArray n2 hd z0 z2) ⟨hD, hb, h _ k (F.change (Heap.SameBut.update ..) hDL hD0) N'⟩
end
end Mine
end
section
open PySem PySem.W PyProof.Rows PySem.Calls
set_option maxRecDepth 100000
namespace Mine
section
variable {M : Model} {A : Around} {E : Value → Shared → Prop} {s : Shared} {env : Env}
theorem wpR_isTrue_or_nil {pos : Pos} {whole : Sem Value} {Q : Bool → Shared → Prop} (h : Q false s) : wpR M A (isTrue (.BoolOp .Or [] pos) env whole) Q E s := wpR_pure (a := false) h
theorem wpR_isTrue_or {x : Expr} {rest : List Expr} {pos : Pos} {whole : Sem Value} {Q : Bool → Shared → Prop}
    (h : wpR M A (isTrue x env (eval x env)) (fun c s' => if c then Q true s' else wpR M A (isTrue (.BoolOp .Or rest pos) env whole) Q E s') E s) :
    wpR M A (isTrue (.BoolOp .Or (x :: rest) pos) env whole) Q E s := by
  show wpR M A (do
    match BoolOp.Or, ← isTrue x env (eval x env) with
    | .And, false => pure false
    | .Or, true => pure true
    | _, _ => allTrue .Or rest env) Q E s
  refine wpR_bind (wpR_mono h (fun c s' h' => ?_) fun _ _ x => x)
  cases c with
  | false => exact h'
  | true => exact wpR_pure h'
theorem wpR_isTrue_Compare1 {l r : Expr} {op : CmpOp} {pos : Pos} {whole : Sem Value} {Q : Bool → Shared → Prop}
    (h : wpR M A (eval l env) (fun a s₁ => wpAny M A (eval r env) (fun b s₂ => wpAny M A (compareOp op a b) (fun c s₃ => wpAny M A (truthy c) Q E s₃) E s₂) E s₁) E s)
    (hm : behindInMarks op r = false := by with_unfolding_all rfl) : wpR M A (isTrue (.Compare l [op] [r] pos) env whole) Q E s := by
  rw [isTrue_Compare1, markedBehindIn_of_false hm]
  refine wpR_bind (wpR_mono h (fun a s₁ h₁ => wpR_of ?_) fun _ _ x => x)
  refine wpAny_bind (wpAny_holding (wpAny_mono h₁ (fun b s₂ h₂ => wpAny_bind (wpAny_standAt ?_)) fun _ _ x => x))
  refine wpAny_bind ?_
  refine fun Γ p hΓ => ?_
  rw [Sem.wp_operate]
  exact Sem.wp_mono M Γ _ (fun c _ s₃ h₃ => wpAny_holding h₃) (fun _ _ _ x => x) _ _ (h₂ Γ p hΓ)
theorem wpR_Compare1 {l r : Expr} {op : CmpOp} {pos : Pos} {Q : Value → Shared → Prop}
    (h : wpR M A (eval l env) (fun a s₁ => wpAny M A (eval r env) (fun b s₂ => wpAny M A (compareOp op a b) Q E s₂) E s₁) E s)
    (hm : behindInMarks op r = false := by with_unfolding_all rfl) : wpR M A (eval (.Compare l [op] [r] pos) env) Q E s := by
  rw [eval_Compare1, markedBehindIn_of_false hm]
  refine wpR_bind (wpR_mono h (fun a s₁ h₁ => wpR_of ?_) fun _ _ x => x)
  refine wpAny_bind (wpAny_holding (wpAny_mono h₁ (fun b s₂ h₂ => wpAny_bind (wpAny_standAt ?_)) fun _ _ x => x))
  refine fun Γ p hΓ => ?_
  rw [Sem.wp_operate]
  exact h₂ Γ p hΓ
theorem wpR_And2 {x y : Expr} {pos : Pos} {Q : Value → Shared → Prop}
    (h : wpAny M A (eval x env) (fun v s₁ => wpAny M A (truthy v) (fun t s₂ => if t then wpR M A (eval y env) Q E s₂ else Q v s₂) E s₁) E s) :
    wpR M A (eval (.BoolOp .And [x, y] pos) env) Q E s := by
  show wpR M A (do
    let v ← eval x env
    standAt pos
    let t ← holding [v] (truthy v)
    match BoolOp.And, t with
    | .And, false | .Or, true => pure v
    | _, _ => boolOp pos .And [eval y env]) Q E s
  refine wpR_step (wpAny_mono h (fun v s₁ h₁ => wpR_step (wpAny_standAt (wpR_step (wpAny_holding (wpAny_mono h₁ (fun t s₂ h₂ => ?_) fun _ _ x => x))))) fun _ _ x => x)
  cases t with
  | false => exact wpR_pure h₂
  | true => exact h₂
/-- a call of an own def, of one argument -/
theorem call_fnR {K : Frag} {f : Value} {pos : Pos} {e : Expr} {Q : Value → Shared → Prop} (hk : keepIn K f = true)
    (h : wpAny M A (eval e env) (fun v s₂ => K.In s₂.heap ∧ wpR M A (call f [v]) Q E s₂) E s) (he : starEach [e] env = [(false, eval e env)] := by rfl) :
    wpR M A (callWith pos f [] (backTo pos (starEach [e] env)) (backToKw pos (keywordEach [] env))) Q E s := by
  rw [he]
  refine wpR_callWith rfl (evalArgs_plain (spliced_cons (wpAny_mono h (fun v s₂ h₂ => spliced_nil ?_) fun _ _ z => z)))
  obtain ⟨k, a, b⟩ := looks_keep (M := M) hk h₂.1
  exact b.here ⟨a.symm, h₂.2⟩
end
theorem Fr.stp {h₀ h h' : Heap} {L : Addr} {m : Str → Option Value} (F : Fr h₀ L h m) (x : Stp [L] [] h h') : Fr h₀ L h' m :=
  ⟨x.ns F.ns (by simp), fun b o e => by
    obtain ⟨sl, e1, q⟩ := x b o (by simp) (F.keep b o e)
    rw [e1, q (by simpa using Nat.ne_of_lt (Nat.lt_of_lt_of_le (Heap.lt_size e) F.above))], F.above⟩
theorem News.stp {h₀ h h' : Heap} {L : Addr} {news : List (Addr × Obj)} (N : News h₀ L h news) (x : Stp [L] [] h h') : News h₀ L h' news := fun p hp => by
  obtain ⟨e, h1, h2⟩ := N p hp
  obtain ⟨sl, e1, q⟩ := x p.1 p.2 (by simp) e
  exact ⟨by rw [e1, q (by simpa using h1)], h1, h2⟩
end Mine
end
section
open PySem PySem.W PyProof.Rows PySem.Calls
set_option maxRecDepth 100000
namespace Mine
section
variable {prog : Program} {w : World} {A : Around} {E : Value → Shared → Prop} {s : Shared} {a b : Addr}
theorem reads_tup {h : Heap} {items : Array Value} {ds : List PyData} {as : List Addr} (x : IsTup h a items) (r : ReadsAll h items.toList ds as) : ∃ as', Reads h (.ref a) (.tuple ds) as' := by
  obtain ⟨o, e, c, n, d⟩ := x
  exact ⟨_, reads_tuple_at e c d r⟩
/-- told == (a text, a place) -/
theorem eq_si {x : Str} {i : Int} {t1 t2 t3 t4 : Tok} {Q : Value → Shared → Prop} (hx : PyData.strOk x = true) (ha : IsTup s.heap a [.str x t1, .int i t2].toArray) (hb : IsTup s.heap b [.str x t3, .int i t4].toArray) (hu : A.units + 64 < cLine) (h : Q (.bool true) s) :
    wpAny (model prog w) A (compareOp .Eq (.ref a) (.ref b)) Q E s := by
  obtain ⟨_, r1⟩ := reads_tup (ds := [.str x, .int i]) ha (.cons (.str _ _) (.cons (.int _ _) .nil))
  obtain ⟨_, r2⟩ := reads_tup (ds := [.str x, .int i]) hb (.cons (.str _ _) (.cons (.int _ _) .nil))
  have hs : SeqAt.shaped (.tuple [.str x, .int i]) = true := by simp [SeqAt.shaped, PyData.canLay0, PyData.canLayAll0, PyData.depth, PyData.depthAll, hx]
  refine eq_dataH r1 r2 hs hs hu ?_
  simpa [PyData.eqv, PyData.eqvAll] using h
theorem eq_ss {x y : Str} {t1 t2 t3 t4 : Tok} {Q : Value → Shared → Prop} (hx : PyData.strOk x = true) (hy : PyData.strOk y = true) (ha : IsTup s.heap a [.str x t1, .str y t2].toArray) (hb : IsTup s.heap b [.str x t3, .str y t4].toArray) (hu : A.units + 64 < cLine) (h : Q (.bool true) s) :
    wpAny (model prog w) A (compareOp .Eq (.ref a) (.ref b)) Q E s := by
  obtain ⟨_, r1⟩ := reads_tup (ds := [.str x, .str y]) ha (.cons (.str _ _) (.cons (.str _ _) .nil))
  obtain ⟨_, r2⟩ := reads_tup (ds := [.str x, .str y]) hb (.cons (.str _ _) (.cons (.str _ _) .nil))
  have hs : SeqAt.shaped (.tuple [.str x, .str y]) = true := by simp [SeqAt.shaped, PyData.canLay0, PyData.canLayAll0, PyData.depth, PyData.depthAll, hx, hy]
  refine eq_dataH r1 r2 hs hs hu ?_
  simpa [PyData.eqv, PyData.eqvAll] using h
end
end Mine
end
section
set_option maxRecDepth 100000
open PySem PySem.W PyProof.Rows PySem.Calls
namespace Mine
variable {w : World} {mean : ExcName → Option Value} {mg mb : Str → Option Value}
theorem filled : (VW = VW ∧ PySem.Challenge.rw_nm0110_01 = PySem.Challenge.rw_nm0110_01 ∧ Mine.hd.heap_39 = Mine.hd.heap_39) := by
  k_fill
  w_top off
  exact ⟨rfl, rfl, rfl⟩
noncomputable def lawPoint (n : Int) : Int := if n.fmod 1112064 < 55296 then n.fmod 1112064 else n.fmod 1112064 + 2048
set_option maxHeartbeats 4000000 in
theorem gives_point (n : Int) (t : Tok) (s : Shared) : Gives w mean mg mb 108 [.int n t] s 2 16 (fun r _ => ∃ t, r = .int (lawPoint n) t) := by
  intro dp un gd cn cs a ccd cl outer A₀ base h₀ L m Q E B F X T hk hd hu hret
  k_dflt (refine' enter_of (binds := [(Str.ofString "number", .int n t)]) ?kB ?kF ?kX ?kT ?kk ?k1 ?k2 ?k3 ?k4 ?k5 ?_ ?c1 ?c2 ?c3 ?c4)
  (case kB => assumption); (case kF => assumption); (case kX => assumption); (case kT => assumption); (case kk => assumption)
  (case k1 => k_is); (case k2 => k_is); (case k3 => omega); (case k4 => exact BindsTo.of_eq rfl); (case k5 => exact locs rfl)
  (case c1 => exact rfl); (case c2 => exact rfl); (case c3 => exact rfl); (case c4 => decide)
  intro h₁ F₁ N₁ B₁ X₁ T₁; (try dsimp only)
  clear B F X T
  k_fold
  k_steps
  all_goals (try dsimp only)
  all_goals refine hret _ _ _ (Fr.keep (by assumption)) (ex_int ?_)
  · unfold lawPoint; rw [if_pos (by assumption)]
  · unfold lawPoint; rw [if_neg (by omega)]
set_option maxHeartbeats 4000000 in
theorem gives_digit (l : Addr) (ns : List Int) (i : Int) (t : Tok) (s : Shared) (hl : IntsIn s.heap l ns) (hn : ns.length ≤ 63) (hi : 0 ≤ i) : Gives w mean mg mb 94 [.ref l, .int i t] s 2 16 (fun r _ => ∃ t, r = .int (ns.getD i.toNat 0) t) := by
  intro dp un gd cn cs a ccd cl outer A₀ base h₀ L m Q E B F X T hk hd hu hret
  obtain ⟨vs, hl, hv⟩ := hl
  k_dflt (refine' enter_of (binds := [(Str.ofString "script", .ref l), (Str.ofString "at", .int i t)]) ?kB ?kF ?kX ?kT ?kk ?k1 ?k2 ?k3 ?k4 ?k5 ?_ ?c1 ?c2 ?c3 ?c4)
  (case kB => assumption); (case kF => assumption); (case kX => assumption); (case kT => assumption); (case kk => assumption)
  (case k1 => k_is); (case k2 => k_is); (case k3 => omega); (case k4 => exact BindsTo.of_eq rfl); (case k5 => exact locs rfl)
  (case c1 => exact rfl); (case c2 => exact rfl); (case c3 => exact rfl); (case c4 => decide)
  intro h₁ F₁ N₁ B₁ X₁ T₁; (try dsimp only)
  clear B F X T
  k_fold
  k_steps
  all_goals (try dsimp only)
  all_goals refine hret _ _ _ (Fr.keep (by assumption)) (ex_int ?_)
  · rfl
  · rw [List.getD_eq_getElem?_getD, List.getElem?_eq_none (by omega)]; rfl
/-- these members make values of which R speaks, one by one, and leave all that stood -/
noncomputable def MkL {α : Type} (M : Model) (A : Around) (E : Value → Shared → Prop) (en : Env) (h₀ : Heap) (L : Addr) (m : Str → Option Value) (g : Heap) (R : Heap → Value → α → Prop) (es : List Expr) (as : List α) : Prop :=
  ∀ (s : Shared) (pos : Pos) (Q : List Value → Shared → Prop), Fr h₀ L s.heap m → Kp g s.heap →
    (∀ vs h' tk, Fr h₀ L h' m → Kp s.heap h' → All2 (R h') vs as → Q vs { s with heap := h', toks := tk }) → wpAny M A (spliced (backTo pos (starEach es en))) Q E s
section
variable {M : Model} {A : Around} {E : Value → Shared → Prop} {name : Str} {scope : Scope} {L a : Addr} {cd : Value} {h₀ g : Heap} {m : Str → Option Value} {es rest : List Expr} {lets : List (Int × Int)} {rows : List (Int × List (Int × Int))}
theorem mk_nil {α : Type} {R : Heap → Value → α → Prop} {en : Env} : MkL M A E en h₀ L m g R [] [] := fun _ _ _ F _ h => spliced_none (h _ _ _ F (fun _ _ x => x) .nil)
theorem tup_new {s : Shared} {vs : List Value} {Q : Value → Shared → Prop} (F : Fr h₀ L s.heap m) (hz : vs.length ≤ 100) (h : ∀ t h' tk, Fr h₀ L h' m → Kp s.heap h' → IsTup h' t vs.toArray → Q (.ref t) { s with heap := h', toks := tk }) : wpAny M A (newTuple vs) Q E s :=
  newTuple_NK F .nil (fun h' F' N' k => h _ h' _ F' k (tupOf N' (.head _))) (by rw [PySem.sizeLine_eq]; omega)
theorem list_new {s : Shared} {vs : List Value} {Q : Value → Shared → Prop} (F : Fr h₀ L s.heap m) (hz : vs.length ≤ 100) (h : ∀ t h' tk, Fr h₀ L h' m → Kp s.heap h' → h'.IsList t vs.toArray → Q (.ref t) { s with heap := h', toks := tk }) : wpAny M A (newList vs) Q E s :=
  newList_NK F .nil (fun h' F' N' k => h _ h' _ F' k (lstOf N' (.head _))) (by rw [PySem.sizeLine_eq]; omega)
theorem pair_new {s : Shared} {en : Env} {x y : Int} {k1 k2 k p1 p2 p} {Q : Value → Shared → Prop} (F : Fr h₀ L s.heap m) (h : ∀ v h' tk, Fr h₀ L h' m → Kp s.heap h' → PairAt h' v (x, y) → Q v { s with heap := h', toks := tk }) :
    wpAny M A (eval (.Tuple [.Constant (.int x) k1 p1, .Constant (.int y) k2 p2] k p) en) Q E s :=
  Tuple_ (spliced_more (wpAny_Constant_int (spliced_more (wpAny_Constant_int (spliced_none (tup_new F (by show 2 ≤ 100; decide) fun t h' tk F' k' ht => h _ _ _ F' k' ⟨_, _, _, rfl, ht⟩))) rfl)) rfl)
theorem mk_pair {en : Env} {x y : Int} {k1 k2 k p1 p2 p} (h2 : MkL M A E en h₀ L m g PairAt es lets) : MkL M A E en h₀ L m g PairAt (.Tuple [.Constant (.int x) k1 p1, .Constant (.int y) k2 p2] k p :: es) ((x, y) :: lets) :=
  fun s pos Q F kg h => spliced_more (pair_new F fun v h' tk F' k' hp => h2 _ pos _ F' (fun _ _ z => k' _ _ (kg _ _ z)) fun vs h'' tk2 F'' k'' ps => h _ _ _ F'' (fun _ _ z => k'' _ _ (k' _ _ z)) (.cons (hp.keeps k'') ps)) rfl
theorem mk_name {x : Str} {p : Pos} {v : Value} {q : Int × Int} (hx : m x = some v ∧ scope.kind = .function ∧ (envOf name scope L a cd).kindOf x = some .local ∧ (x == ("__debug__" : Str)) = false ∧ PairAt g v q) (h2 : MkL M A E (envOf name scope L a cd) h₀ L m g PairAt es lets) :
    MkL M A E (envOf name scope L a cd) h₀ L m g PairAt (.Name x p :: es) (q :: lets) :=
  fun s pos Q F kg h => spliced_more (ld F hx.1 (h2 s pos _ F kg fun vs h'' tk2 F'' k'' ps => h _ _ _ F'' k'' (.cons ((hx.2.2.2.2.keeps kg).keeps k'') ps)) hx.2.1 hx.2.2.1 hx.2.2.2.1) rfl
theorem mk_at {h : Heap} {x : Str} {v : Value} {q : Int × Int} {m' : Str → Option Value} (_ : Fr h₀ L h (fun y => if y = x then some v else m' y)) (hp : PairAt h v q) (hk : scope.kind = .function) (hl : (envOf name scope L a cd).kindOf x = some .local) (hd : (x == ("__debug__" : Str)) = false) :
    (fun y => if y = x then some v else m' y) x = some v ∧ scope.kind = .function ∧ (envOf name scope L a cd).kindOf x = some .local ∧ (x == ("__debug__" : Str)) = false ∧ PairAt h v q := ⟨if_pos rfl, hk, hl, hd, hp⟩
theorem MkL.use {α : Type} {R : Heap → Value → α → Prop} {as : List α} {en : Env} {s : Shared} {pos : Pos} {Q : List Value → Shared → Prop} (F : Fr h₀ L s.heap m) (k : Kp g s.heap) (h1 : MkL M A E en h₀ L m g R es as)
    (h2 : ∀ vs h' tk, Fr h₀ L h' m → Kp s.heap h' → All2 (R h') vs as → Q vs { s with heap := h', toks := tk }) : wpAny M A (spliced (backTo pos (starEach es en))) Q E s := h1 s pos Q F k h2
theorem mk_row {en : Env} {f : Int} {k1 k p1 p2 p} (h1 : MkL M A E en h₀ L m g PairAt es lets) (hz : lets.length ≤ 100) (h2 : MkL M A E en h₀ L m g RowAt rest rows) :
    MkL M A E en h₀ L m g RowAt (.Tuple [.Constant (.int f) k1 p1, .List es p2] k p :: rest) ((f, lets) :: rows) :=
  fun s pos Q F kg h => spliced_more (Tuple_ (spliced_more (wpAny_Constant_int (spliced_more (List_ (h1 _ _ _ F kg fun vs h1 tk1 F1 k1 ps => list_new F1 (by rw [ps.length]; exact hz) fun l hl tk2 F2 k2 il =>
    spliced_none (tup_new F2 (by show 2 ≤ 100; decide) fun t h3 tk3 F3 k3 ht => h2 _ pos _ F3 (fun _ _ z => k3 _ _ (k2 _ _ (k1 _ _ (kg _ _ z)))) fun vs' h4 tk4 F4 k4 ps' => h _ _ _ F4 (fun _ _ z => k4 _ _ (k3 _ _ (k2 _ _ (k1 _ _ z))))
      (.cons (RowAt.keeps ⟨t, _, l, rfl, ht, LetsAt.keeps ⟨vs, il, ps.mono fun _ _ y => y.keeps k2⟩ k3⟩ k4) ps')))) rfl)) rfl)) rfl
end
set_option maxHeartbeats 4000000 in
theorem gives_rows (s : Shared) : Gives w mean mg mb 101 [] s 2 16 (fun r h => ∃ l, r = .ref l ∧ RowsAt h l ROWS) := by
  intro dp un gd cn cs a ccd cl outer A₀ base h₀ L m Q E B F X T hk hd hu hret
  k_dflt (refine' enter_of (binds := []) ?kB ?kF ?kX ?kT ?kk ?k1 ?k2 ?k3 ?k4 ?k5 ?_ ?c1 ?c2 ?c3 ?c4)
  (case kB => assumption); (case kF => assumption); (case kX => assumption); (case kT => assumption); (case kk => assumption)
  (case k1 => k_is); (case k2 => k_is); (case k3 => omega); (case k4 => exact BindsTo.of_eq rfl); (case k5 => exact locs rfl)
  (case c1 => exact rfl); (case c2 => exact rfl); (case c3 => exact rfl); (case c4 => decide)
  intro h₁ F₁ N₁ B₁ X₁ T₁; (try dsimp only)
  clear B F X T
  k_fold
  refine wpAny_execs_cons (wpAny_Assign_Name (Tuple_ (spliced_more (wpAny_Constant_int (spliced_more (wpAny_Constant_int (spliced_none (newTuple_N (by assumption) .nil fun h1 F1 N1 => ?_))) rfl)) rfl)) rfl)
  dsimp only at F1 N1 ⊢
  with_reducible refine stN F1 N1 (fun h2 F2 N2 => ?_) (by kernel_rfl!) (by kernel_rfl!)
  dsimp only
  with_reducible refine wpAny_execs_cons ?_
  with_reducible refine wpAny_Return_some ?_
  with_reducible refine List_ ?_
  have hx := mk_at (name := Str.ofString "_law_rows") (scope := { kind := .function, names := [(Str.ofString "tail", .local)], isGenerator := false, isCoroutine := false }) (a := 101) (cd := .ref 100) (q := (128, 192)) F2 ⟨_, _, _, rfl, tupOf N2 (.head _)⟩ rfl rfl (by decide)
  clear F1 N1 N2
  with_reducible refine MkL.use (g := h2) F2 (fun _ _ z => z) (R := RowAt) (as := ROWS) ?_ fun vs h3 tk3 F3 k3 ps => ?_
  · clear hret F2
    unfold ROWS tailP
    repeat' (with_reducible first
      | exact mk_nil
      | refine mk_row ?_ ?_ ?_
      | refine mk_pair ?_
      | refine mk_name hx ?_)
    all_goals decide
  clear hx
  refine list_new F3 (by rw [ps.length]; decide) fun l h4 tk4 F4 k4 hl => ?_
  dsimp only
  exact hret _ _ _ F4.keep ⟨l, rfl, vs, hl, ps.mono fun _ _ y => y.keeps k4⟩
section
variable {prog : Program} {A : Around} {E : Value → Shared → Prop} {s : Shared}
theorem item_at {value slice : Expr} {l : Addr} {vs : List Value} {k : Int} {u : Tok} {v : Value} {Q : Value → Shared → Prop} (hl : s.heap.IsList l vs.toArray) (h0 : 0 ≤ k) (hhi : k < 2 ^ 63) (hx : vs[k.toNat]? = some v) (h : Q v s)
    (hs : subscripted slice false (.ref l) (.int k u) = operate [.ref l, .int k u] (getItem (.ref l) (.int k u)) := by with_unfolding_all rfl) :
    wpAny (model prog w) A (subscriptTail value slice (.ref l) (.int k u)) Q E s :=
  tail_any hl.typeIs slot_list_getitem.lookup (wpAny_getItem_list hl h0 hhi (by simpa using hx) h) hs
theorem len_at {l : Addr} {vs : List Value} {n : Nat} {Q : Value → Shared → Prop} (hl : s.heap.IsList l vs.toArray) (e : vs.length = n) (hn : n ≤ 100000) (h : Q (.int (n : Nat) (s.toks + 1)) { s with toks := s.toks + 1 + 1 }) :
    wpAny (model prog w) A (call (.builtin "len") [.ref l]) Q E s := by
  have e2 : vs.toArray.size = n := by rw [List.size_toArray, e]
  exact len_list hl (by rw [e2]; omega) (by rw [e2]; exact h)
end
local macro_rules
  | `(tactic| walk_at "call builtin:len") => `(tactic| (k_here; (with_reducible show wpAny _ _ (call (Value.builtin "len") [Value.ref _]) _ _ _); (with_unfolding_all refine' len_at ?k1 ?k2 ?k3 ?_; (case k1 => is_list); (case k2 => first | exact IntsAre.length (by assumption) | exact All2.length (by assumption) | assumption); (case k3 => omega); k_whole)))
  | `(tactic| walk_at "subscriptTail") => `(tactic| (k_here; (with_reducible show wpAny _ _ (subscriptTail _ _ (Value.ref _) (Value.int _ _)) _ _ _); (with_unfolding_all refine' item_at ?k1 ?k2 ?k3 ?k4 ?_ ?k6; (case k1 => is_list); (case k2 => omega); (case k3 => omega); (case k4 => assumption); (case k6 => with_unfolding_all rfl); k_whole)))
noncomputable def lawFits (lets : List (Int × Int)) (ns : List Int) (i : Int) : Bool :=
  decide (i + lets.length ≤ ns.length) && (List.range lets.length).all fun k => decide ((lets.getD k (0, 0)).1 ≤ ns.getD (i.toNat + k) 0) && decide (ns.getD (i.toNat + k) 0 < (lets.getD k (0, 0)).2)
theorem fits_yes {lets : List (Int × Int)} {ns : List Int} {i : Int} (h : i + lets.length ≤ ns.length) (hj : ∀ j : Nat, j < lets.length → (lets.getD j (0, 0)).1 ≤ ns.getD (i.toNat + j) 0 ∧ ns.getD (i.toNat + j) 0 < (lets.getD j (0, 0)).2) : lawFits lets ns i = true := by
  unfold lawFits
  simp only [Bool.and_eq_true, decide_eq_true_eq, List.all_eq_true, List.mem_range]
  exact ⟨h, hj⟩
theorem fits_no {lets : List (Int × Int)} {ns : List Int} {i : Int} {j : Nat} (hj : j < lets.length) (_ : 0 ≤ i) (h : ¬ (lets[j].1 ≤ ns.getD (i.toNat + j) 0 ∧ ns.getD (i.toNat + j) 0 < lets[j].2)) : lawFits lets ns i = false := by
  cases e : lawFits lets ns i with
  | false => rfl
  | true =>
    unfold lawFits at e
    simp only [Bool.and_eq_true, decide_eq_true_eq, List.all_eq_true, List.mem_range] at e
    have := e.2 j hj
    rw [FinIter.getD_get _ _ _ hj] at this
    exact absurd this h
set_option maxHeartbeats 4000000 in
theorem gives_fits (l o : Addr) (lets : List (Int × Int)) (ns : List Int) (i : Int) (t : Tok) (s : Shared) (hl : LetsAt s.heap l lets) (ho : IntsIn s.heap o ns) (hn : ns.length ≤ 100) (hln : lets.length ≤ 4) (hi : 0 ≤ i) (hi2 : i ≤ 100) :
    Gives w mean mg mb 120 [.ref l, .ref o, .int i t] s 2 16 (fun r _ => r = .bool (lawFits lets ns i)) := by
  intro dp un gd cn cs a ccd cl outer A₀ base h₀ L m Q E B F X T hk hd hu hret
  obtain ⟨us, hl, hp⟩ := hl
  obtain ⟨vs, ho, hv⟩ := ho
  k_dflt (refine' enter_of (binds := [(Str.ofString "lets", .ref l), (Str.ofString "octets", .ref o), (Str.ofString "at", .int i t)]) ?kB ?kF ?kX ?kT ?kk ?k1 ?k2 ?k3 ?k4 ?k5 ?_ ?c1 ?c2 ?c3 ?c4)
  (case kB => assumption); (case kF => assumption); (case kX => assumption); (case kT => assumption); (case kk => assumption)
  (case k1 => k_is); (case k2 => k_is); (case k3 => omega); (case k4 => exact BindsTo.of_eq rfl); (case k5 => exact locs rfl)
  (case c1 => exact rfl); (case c2 => exact rfl); (case c3 => exact rfl); (case c4 => decide)
  intro h₁ F₁ N₁ B₁ X₁ T₁; (try dsimp only)
  clear B F X T
  k_fold
  k_steps
  · (try dsimp only)
    refine hret _ _ _ (Fr.keep (by assumption)) (ex_bool ?_)
    unfold lawFits
    rw [decide_eq_false (by omega)]; rfl
  · (rename Fr _ _ _ _ => F9); (rename News _ _ _ _ => N9); (rename IsRange _ _ _ _ _ _ _ _ => R9)
    refine' kst_range (σ := Unit) (fun _ => []) (fun _ => []) (fun _ => True) [Str.ofString "low", Str.ofString "behind"]
      (fun pre _ => ∀ j : Nat, j < pre.length → (lets.getD j (0, 0)).1 ≤ ns.getD (i.toNat + j) 0 ∧ ns.getD (i.toNat + j) 0 < (lets.getD j (0, 0)).2) ()
      rfl R9 (small_one (by omega) (by omega) (by omega) (by omega)) (rangeSize_nat _ _) F9 N9 trivial (by simp) (by simp) ?_ ?_
    · intro c pre k tk2 u h2 tk3 own hk2 hlt hoff hf hP F2 N2
      k_fold
      have hlt2 : pre.length < lets.length := by omega
      obtain ⟨v, hv2, tt, ta, tb, rfl, htup⟩ := hp.get (i := pre.length) (a := lets[pre.length]) (by simp [hlt2])
      subst hk2
      have hv3 : us[(0 + (pre.length : Int)).toNat]? = some (Value.ref tt) := by simpa using hv2
      k_steps
      · (try dsimp only)
        refine hret _ _ _ (Fr.keep (by assumption)) (ex_bool (fits_no hlt2 (by omega) (fun h => ?_)).symm)
        have e : (i + (0 + (pre.length : Int))).toNat = i.toNat + pre.length := by omega
        rw [← e] at h; omega
      · (try dsimp only)
        refine hret _ _ _ (Fr.keep (by assumption)) (ex_bool (fits_no hlt2 (by omega) (fun h => ?_)).symm)
        have e : (i + (0 + (pre.length : Int))).toNat = i.toNat + pre.length := by omega
        rw [← e] at h; omega
      · (rename Fr _ _ _ _ => F8); (rename News _ _ _ _ => N8)
        refine kst_end () F8 N8 (fun _ h => nomatch h) (by intro p hp; simpa using hp) rfl trivial (fun _ h => nomatch h) (by intro z q1 _ q3; simp only [List.contains_cons, List.contains_nil, Bool.or_false, Bool.or_eq_false_iff, beq_eq_false_iff_ne, ne_eq] at q3; simp [kstB, q1, q3]) ?_
        intro j hj
        rw [List.length_append, List.length_singleton] at hj
        by_cases hje : j = pre.length
        · subst hje
          have e : (i + (0 + (pre.length : Int))).toNat = i.toNat + pre.length := by omega
          rw [← e, FinIter.getD_get _ _ _ hlt2]
          exact ⟨by omega, by omega⟩
        · exact hP j (by omega)
    · intro c u h2 tk3 hf hP F2 N2
      rw [rangeKs_length] at hP
      k_steps
      (try dsimp only)
      refine hret _ _ _ (Fr.keep (by assumption)) (ex_bool (fits_yes (by omega) fun j hj => hP j (by omega)).symm)
noncomputable def lawSpoiled (form : List Int) (sp : Int) : List Int :=
  if sp.fmod 6 = 2 then form.take (((sp.fdiv 6).fdiv 256).fmod form.length).toNat ++ [(sp.fdiv 6).fmod 256] ++ form.drop (((sp.fdiv 6).fdiv 256).fmod form.length + 1).toNat
  else if sp.fmod 6 = 3 then form.take ((sp.fdiv 6).fmod form.length).toNat
  else if sp.fmod 6 = 4 then [(sp.fdiv 6).fmod 256] ++ form
  else if sp.fmod 6 = 5 then (rangeKs 0 (1 + ((sp.fdiv 6).fdiv (256 ^ Int.toNat 4)).fmod 4 - 0).toNat).map fun k => ((sp.fdiv 6).fdiv (256 ^ k.toNat)).fmod 256
  else form
theorem pow_ne (k : Int) : (256 : Int) ^ k.toNat ≠ 0 := Int.ne_of_gt (Int.pow_pos (by decide))
theorem pow_small {k : Int} (h : k < 4) : ((256 : Int) ^ k.toNat).natAbs < 1073741824 := by
  have h3 : k.toNat ≤ 3 := by omega
  generalize k.toNat = j at h3
  have : j = 0 ∨ j = 1 ∨ j = 2 ∨ j = 3 := by omega
  rcases this with rfl | rfl | rfl | rfl <;> decide
local macro_rules
  | `(tactic| walk_at "binaryOp FloorDiv int int") => `(tactic| (k_here; (with_reducible show wpAny _ _ (binaryOp Operator.FloorDiv (Value.int _ _) (Value.int (256 ^ Int.toNat _) _)) _ _ _); (refine' floordiv_int (hp := Or.inl (PyProof.noPylong_small (pow_small ?k2))) (pow_ne _) ?_; (case k2 => omega); k_whole)))
theorem fmod_facts (x : Int) {n : Int} (h : 0 < n) : 0 ≤ x.fmod n ∧ x.fmod n < n := ⟨Int.fmod_nonneg_of_pos _ h, Int.fmod_lt_of_pos _ h⟩
/-- a list of ints, just as a display makes it -/
noncomputable def IntsAt (h : Heap) (l : Addr) (ns : List Int) : Prop := ∃ vs n, h.get? l = some (W.listOf vs.toArray n) ∧ IntsAre vs ns
theorem IntsAt.ints {h : Heap} {l : Addr} {ns : List Int} (x : IntsAt h l ns) : IntsIn h l ns := let ⟨vs, n, e, hi⟩ := x; ⟨vs, ⟨_, e, rfl, n, rfl⟩, hi⟩
theorem IntsAt.keeps {h h' : Heap} {l : Addr} {ns : List Int} (x : IntsAt h l ns) (k : Kp h h') : IntsAt h' l ns := let ⟨vs, n, e, hi⟩ := x; ⟨vs, n, k _ _ e, hi⟩
set_option maxHeartbeats 4000000 in
theorem gives_spoiled (l : Addr) (form : List Int) (sp : Int) (t : Tok) (s : Shared) (hl : IntsAt s.heap l form) (h1 : 1 ≤ form.length) (h2 : form.length ≤ 4) :
    Gives w mean mg mb 130 [.ref l, .int sp t] s 2 16 (fun r h => ∃ o, r = .ref o ∧ (o = l ∨ s.heap.get? o = none) ∧ IntsAt h o (lawSpoiled form sp)) := by
  intro dp un gd cn cs a ccd cl outer A₀ base h₀ L m Q E B F X T hk hd hu hret
  obtain ⟨us, n0, hl0, hv⟩ := hl
  have hl : s.heap.IsList l us.toArray := ⟨_, hl0, rfl, n0, rfl⟩
  have hlen := hv.length
  have hA := fmod_facts ((sp.fdiv 6).fdiv 256) (n := form.length) (by omega)
  have hA1 : 0 ≤ ((sp.fdiv 6).fdiv 256).fmod form.length + 1 := by omega
  have hB := fmod_facts (sp.fdiv 6) (n := form.length) (by omega)
  k_dflt (refine' enter_ofC (binds := [(Str.ofString "form", .ref l), (Str.ofString "spoil", .int sp t)]) ?kB ?kF ?kX ?kT ?kk ?k1 ?k2 ?k3 ?k4 ?k5 ?k6 ?_ ?c1 ?c2 ?c3)
  (case kB => assumption); (case kF => assumption); (case kX => assumption); (case kT => assumption); (case kk => assumption)
  (case k1 => k_is); (case k2 => k_is); (case k3 => omega); (case k4 => exact BindsTo.of_eq rfl); (case k5 => exact rfl); (case k6 => decide +kernel)
  (case c1 => exact rfl); (case c2 => exact rfl); (case c3 => exact rfl)
  intro h₁ tk₁ cells₁ F₁ N₁ Y₁ B₁ X₁ T₁; k_cells Y₁; (try dsimp only)
  clear B F X T
  show wpAny _ _ _ _ _ _
  k_fold
  k_steps
  · (rename Fr _ _ _ _ => F8); (rename News _ _ _ _ => N8); (rename IntsAre _ _ => I8); (rename sp.fmod 6 = 2 => q2)
    (try dsimp only)
    exact hret _ _ _ F8.keep ⟨_, rfl, .inr (N8 _ (.head _)).2.2, _, _, (N8 _ (.head _)).1, by unfold lawSpoiled; rw [if_pos q2]; exact I8⟩
  · (rename Fr _ _ _ _ => F8); (rename News _ _ _ _ => N8); (rename IntsAre _ _ => I8); (rename sp.fmod 6 = 3 => q3); (rename sp.fmod 6 ≠ 2 => q2)
    (try dsimp only)
    exact hret _ _ _ F8.keep ⟨_, rfl, .inr (N8 _ (.head _)).2.2, _, _, (N8 _ (.head _)).1, by unfold lawSpoiled; rw [if_neg q2, if_pos q3]; exact I8⟩
  · (rename Fr _ _ _ _ => F8); (rename News _ _ _ _ => N8); (rename IntsAre _ _ => I8); (rename sp.fmod 6 = 4 => q4); (rename sp.fmod 6 ≠ 3 => q3); (rename sp.fmod 6 ≠ 2 => q2)
    (try dsimp only)
    exact hret _ _ _ F8.keep ⟨_, rfl, .inr (N8 _ (.head _)).2.2, _, _, (N8 _ (.head _)).1, by unfold lawSpoiled; rw [if_neg q2, if_neg q3, if_pos q4]; exact I8⟩
  · (rename Fr _ _ _ _ => F8); (rename News _ _ _ _ => N8); (rename IntsAre _ _ => I8); (rename sp.fmod 6 = 5 => q5); (rename sp.fmod 6 ≠ 4 => q4); (rename sp.fmod 6 ≠ 3 => q3); (rename sp.fmod 6 ≠ 2 => q2)
    (try dsimp only)
    exact hret _ _ _ F8.keep ⟨_, rfl, .inr (N8 _ (.head _)).2.2, _, _, (N8 _ (.head _)).1, by unfold lawSpoiled; rw [if_neg q2, if_neg q3, if_neg q4, if_pos q5]; exact I8⟩
  · (rename Fr _ _ _ _ => F8); (rename sp.fmod 6 ≠ 5 => q5); (rename sp.fmod 6 ≠ 4 => q4); (rename sp.fmod 6 ≠ 3 => q3); (rename sp.fmod 6 ≠ 2 => q2)
    (try dsimp only)
    exact hret _ _ _ F8.keep ⟨_, rfl, .inl rfl, us, n0, F8.keep _ _ hl0, by unfold lawSpoiled; rw [if_neg q2, if_neg q3, if_neg q4, if_neg q5]; exact hv⟩
noncomputable def Hold (P : Prop) : Prop := P
theorem Hold.out {P : Prop} (h : Hold P) : P := h
theorem Hold.mk {P : Prop} (h : P) : Hold P := h
local macro_rules
  | `(tactic| walk_at "pyIter ref") => `(tactic| (k_here; (with_reducible show wpAny _ _ (pyIter (Value.ref _)) (fun it s₂ => LoopAtV _ _ _ _ _ _ _ _ _ it s₂) _ _); refine Hold.out ?_))
  | `(tactic| walk_at "exec Assign cons ListComp") => `(tactic| (k_here; refine Hold.out ?_))
  | `(tactic| walk_at "eval ListComp") => `(tactic| (k_here; refine Hold.out ?_))
section
open PyProof.Rows.LCt PyProof.Rows.LCg
variable {prog : Program} {A : Around} {E : Value → Shared → Prop} {s : Shared} {h₀ : Heap} {L : Addr} {m : Str → Option Value} {env : Env}
theorem filt_rest {α : Type} {R : Value → α → Prop} {p : α → Bool} {ct : Expr} {x : Str} {px : Pos} {scope : Scope} {cl : List (Str × Addr)} {S : List (Addr × Obj) → Prop} {its : Array Value} {Fin : List Value → List (Addr × Obj) → Prop} {news : List (Addr × Obj)}
    (hS : S news) (hk : scope.kind = .function) (hx : scope.names.lookup x = some .local) (hd : (x == ("__debug__" : Str)) = false)
    (test : ∀ v a I oI C oC D ys m₂ h tk E', R v a → NsObj oC m₂ → m₂ x = some v → Fr h₀ L h m → News h₀ L h ((I, oI) :: (C, oC) :: (D, lst ys) :: news) → Off3 I C D news →
      wpAny (model prog w) A (isTrue ct (compEnvC scope cl C env) (eval ct (compEnvC scope cl C env))) (fun ok s' => ok = p a ∧ ∃ h' tk', s' = { s with heap := h', toks := tk' } ∧ Kp h h') E' { s with heap := h, toks := tk }) :
    ∀ (suf : List Value) (asuf : List α) (pre ys : List Value) (ays : List α), its.toList = pre ++ suf → All2 R suf asuf → All2 R ys ays → (∀ zs, All2 R zs (ays ++ asuf.filter p) → Fin zs news) →
      CompRestT prog w A h₀ L m env ct (.Name x px) x scope cl s S (fun i v => its[i]? = some v) Fin suf.length pre.length ys news := by
  intro suf
  induction suf with
  | nil =>
    intro asuf pre ys ays _ h1 h2 fin
    cases h1
    exact CompRestT.zero (fin ys (by simpa using h2))
  | cons v0 suf ih =>
    intro asuf pre ys ays he h1 h2 fin
    cases h1 with
    | @cons _ a0 _ asuf' r0 h1 =>
    refine CompRestT.succ (k := suf.length) ?_
    intro v I oI C oC D m₂ h tk E' hv hC hm F N off ne
    have hv0 : v = v0 := by
      have : its.toList[pre.length]? = some v := by simpa using hv
      rw [he, List.getElem?_append_right (Nat.le_refl _)] at this
      simpa using this.symm
    subst hv0
    refine wpAny_mono (test v a0 I oI C oC D ys m₂ h tk E' r0 hC hm F N off) (fun ok s' hok => ?_) fun _ _ e => e
    obtain ⟨rfl, h', tk', rfl, k⟩ := hok
    have F' := F.keeps k
    have N' := N.grown k
    cases hp : p a0 with
    | true =>
      simp only [if_true]
      refine wpAny_Name (wpAny_loadName_local (env := compEnvC scope cl C env) (by simp [compEnvC, relabel, hk]) (lookup_relabel_local hx) (hC.ns (N' (C, oC) (by simp)).1) hm ?_) hd
      refine ⟨h', tk', news, rfl, F', N', off, hS, ?_⟩
      have := ih asuf' (pre ++ [v]) (ys ++ [v]) (ays ++ [a0]) (by rw [he]; simp) h1 (All2.snoc h2 r0) (fun zs hz => fin zs (by simpa [List.filter_cons, hp] using hz))
      simpa using this
    | false =>
      simp only [Bool.false_eq_true, if_false]
      refine ⟨h', tk', news, rfl, F', N', off, hS, ?_⟩
      have := ih asuf' (pre ++ [v]) ys ays (by rw [he]; simp) h1 h2 (fun zs hz => fin zs (by simpa [List.filter_cons, hp] using hz))
      simpa using this

theorem listcomp_filt {α : Type} {R : Value → α → Prop} {p : α → Bool} {ct iter : Expr} {x : Str} {px px' : Pos} {scope : Scope} {cl : List (Str × Addr)} {pos : Pos} {Q : Value → Shared → Prop} {ax : Addr} {vs : List Value} {as : List α} {news : List (Addr × Obj)}
    (hh : A.handled = none) (F : Fr h₀ L s.heap m) (N : News h₀ L s.heap news) (hl : h₀.IsList ax vs.toArray) (hsz : vs.length ≤ 1000) (ha : All2 R vs as)
    (hclos : closureFor scope env = pure cl) (hcell : ∀ y ∈ scope.names, y.2 ≠ .cell) (hkind : scope.kind = .function)
    (hnames : ∀ y ∈ scope.names, y.2 = .local → scope.names.lookup y.1 = some .local) (hx : scope.names.lookup x = some .local) (hd : (x == ("__debug__" : Str)) = false)
    (src : ∀ (Q' : Value → Shared → Prop), (∀ tk, Q' (.ref ax) { s with toks := tk }) → wpAny (model prog w) A (eval iter env) Q' E s)
    (test : ∀ (g0 : Shared) v a I oI C oC D ys m₂ h tk E', R v a → NsObj oC m₂ → m₂ x = some v → Fr h₀ L h m → News h₀ L h ((I, oI) :: (C, oC) :: (D, lst ys) :: news) → Off3 I C D news →
      wpAny (model prog w) A (isTrue ct (compEnvC scope cl C env) (eval ct (compEnvC scope cl C env))) (fun ok s' => ok = p a ∧ ∃ h' tk', s' = { g0 with heap := h', toks := tk' } ∧ Kp h h') E' { g0 with heap := h, toks := tk })
    (fin : ∀ D zs h tk, All2 R zs (as.filter p) → Fr h₀ L h m → News h₀ L h ((D, lst zs) :: news) → Off1 D news → Q (.ref D) { s with heap := h, toks := tk })
    (hs : ∀ x, foldedSetIterable iter env x = pure x := by intro _; rfl) :
    wpAny (model prog w) A (eval (.ListComp (.Name x px) [⟨.Name x px', iter, [ct], 0⟩] scope pos) env) Q E s := by
  refine ListComp_T F hclos hcell hkind hnames hx (src _ fun tk => ?_) hs
  refine CompSrcT.base hh F N hl (by rw [List.size_toArray, sizeLine_eq]; omega) fun g => ?_
  have := filt_rest (its := vs.toArray) (S := SrcAt h₀ ax vs.toArray) (s := { s with heap := g, toks := tk }) (Fin := FinE h₀ L m { s with heap := g, toks := tk } Q) (px := px) (p := p) (R := R) (.inl hl) hkind hx hd (fun v a I oI C oC D ys m₂ h tk E' => test _ v a I oI C oC D ys m₂ h tk E')
    vs as [] [] [] (by simp) ha .nil (fun zs hz => fun D h tk F N o => fin D zs h tk (by simpa using hz) F N o)
  simpa using this
theorem assign_filt {α : Type} {R : Value → α → Prop} {p : α → Bool} {ct iter : Expr} {x y : Str} {px px' py : Pos} {scope : Scope} {cl : List (Str × Addr)} {pos spos : Pos} {Q : Flow → Shared → Prop} {ax : Addr} {vs : List Value} {as : List α} {news : List (Addr × Obj)}
    (hh : A.handled = none) (F : Fr h₀ L s.heap m) (N : News h₀ L s.heap news) (hLe : env.locals = L) (hl : h₀.IsList ax vs.toArray) (hsz : vs.length ≤ 1000) (ha : All2 R vs as)
    (hsw : swapsWith (.ListComp (.Name x px) [⟨.Name x px', iter, [ct], 0⟩] scope pos) (some (.Name y py)) spos.line env = pure true)
    (hclos : closureFor scope env = pure cl) (hcell : ∀ y ∈ scope.names, y.2 ≠ .cell) (hkind : scope.kind = .function)
    (hnames : ∀ y ∈ scope.names, y.2 = .local → scope.names.lookup y.1 = some .local) (hx : scope.names.lookup x = some .local)
    (hy : env.kindOf y = some .local) (hp : (env.scope.kind == .class || (env.scope.kind == .module && env.locals != env.globals)) = false) (hd : (x == ("__debug__" : Str)) = false)
    (src : ∀ (Q' : Value → Shared → Prop), (∀ tk, Q' (.ref ax) { s with toks := tk }) → wpAny (model prog w) A (eval iter env) Q' E s)
    (test : ∀ (g0 : Shared) v a I oI C oC D ys m₂ h tk E', R v a → NsObj oC m₂ → m₂ x = some v → Fr h₀ L h m → News h₀ L h ((I, oI) :: (C, oC) :: (D, lst ys) :: news) → Off3 I C D news →
      wpAny (model prog w) A (isTrue ct (compEnvC scope cl C env) (eval ct (compEnvC scope cl C env))) (fun ok s' => ok = p a ∧ ∃ h' tk', s' = { g0 with heap := h', toks := tk' } ∧ Kp h h') E' { g0 with heap := h, toks := tk })
    (fin : ∀ D zs h tk, All2 R zs (as.filter p) → Fr h₀ L h (fun z => if z = y then some (.ref D) else m z) → News h₀ L h ((D, lst zs) :: news) → Off1 D news → Q .next { s with heap := h, toks := tk })
    (hs : ∀ x, foldedSetIterable iter env x = pure x := by intro _; rfl) :
    wpAny (model prog w) A (exec (.Assign [.Name y py] (.ListComp (.Name x px) [⟨.Name x px', iter, [ct], 0⟩] scope pos) spos) env) Q E s := by
  refine Assign_ListComp_T F hLe hsw hclos hcell hkind hnames hx hy hp (src _ fun tk => ?_) hs
  refine CompSrcT.base hh F N hl (by rw [List.size_toArray, sizeLine_eq]; omega) fun g => ?_
  have := filt_rest (its := vs.toArray) (S := SrcAt h₀ ax vs.toArray) (s := { s with heap := g, toks := tk }) (Fin := FinA h₀ L m { s with heap := g, toks := tk } y Q) (px := px) (p := p) (R := R) (.inl hl) hkind hx hd (fun v a I oI C oC D ys m₂ h tk E' => test _ v a I oI C oC D ys m₂ h tk E')
    vs as [] [] [] (by simp) ha .nil (fun zs hz => fun D h tk F N o => fin D zs h tk (by simpa using hz) F N o)
  simpa using this
end
section
variable {prog : Program} {A : Around} {E : Value → Shared → Prop} {s : Shared} {env : Env} {h₀ : Heap} {x : Str} {body : List Stmt} {Q : Flow → Shared → Prop}
noncomputable def FreeEnd (h₀ : Heap) (L : Addr) (J : (Str → Option Value) → List (Addr × Obj) → Prop) (it : Addr × Obj) (s₁ s₂ : Shared) : Prop :=
  ∃ h' tk m' news' nx, s₂ = { s₁ with heap := h', toks := tk } ∧ Fr h₀ L h' m' ∧ News h₀ L h' news' ∧ (∀ p ∈ nx, p ∈ news') ∧ it ∈ news' ∧ (∀ p ∈ nx, ∀ xs, p.2.data ≠ .fields xs) ∧ J m' nx
noncomputable def FreePost (h₀ : Heap) (L : Addr) (J : (Str → Option Value) → List (Addr × Obj) → Prop) (it : Addr × Obj) (s₁ : Shared) (Q : Flow → Shared → Prop) (f : Flow) (s₂ : Shared) : Prop :=
  match f with
  | .ret v => Q (.ret v) s₂
  | .brk => Q .next s₂
  | _ => FreeEnd h₀ L J it s₁ s₂
theorem range_free {r : Addr} {a₀ b₀ d : Int} {t₀ u₀ v₀ : Tok} {n : Nat} {m₀ : Str → Option Value} {news : List (Addr × Obj)} (J : Nat → (Str → Option Value) → List (Addr × Obj) → Prop)
    (hh : A.handled = none) (hr : IsRange s.heap r a₀ b₀ d t₀ u₀ v₀) (hsmall : Builtin.Range.small a₀ b₀ d = true) (hn : Builtin.Range.rangeSize a₀ b₀ d = (n : Int)) (F : Fr h₀ env.locals s.heap m₀) (N : News h₀ env.locals s.heap news) (hj : J 0 m₀ news)
    (turn : ∀ i t m₁ news₁ h tk (it : Addr × Obj), i < n → J i m₁ news₁ → (∃ xs, it.2.data = .fields xs) → Fr h₀ env.locals h (fun y => if y = x then some (.int (a₀ + i * d) t) else m₁ y) → News h₀ env.locals h (it :: news₁) →
      wpAny (model prog w) A (execs body env) (FreePost h₀ env.locals (J (i + 1)) it { s with heap := h, toks := tk } Q) E { s with heap := h, toks := tk })
    (done : ∀ m₁ news₁ h tk, J n m₁ news₁ → Fr h₀ env.locals h m₁ → News h₀ env.locals h news₁ → Q .next { s with heap := h, toks := tk }) :
    wpAny (model prog w) A (pyIter (.ref r)) (fun it s₂ => LoopAtV prog w A h₀ env x body Q E it s₂) E s := by
  refine wpAny_pyIter_range hr hsmall ?_
  have W : Walks prog w A s.heap.objs.size [s.heap.objs.size] [s.heap.objs.size] n (fun i v => i < n ∧ ∃ t, v = .int (a₀ + i * d) t)
      (fun i h => IsRangeIter h s.heap.objs.size (a₀ + (i : Nat) * d) ((n : Int) - (i : Nat)) d) := (Walks.range hh _ a₀ d n).bound
  have hI₀ := next_is_new F
  refine ⟨_, _, _, n, _, _, m₀, news, J, rfl, W, ?_, ?_, ?_, (by show IsRangeIter _ _ _ _ _; rw [hn]; simpa using Heap.get?_push_size _ rfl), F.push _, (fun p hp => ⟨Heap.get?_push_of_some _ (N p hp).1, (N p hp).2⟩), hj, ?_, ?_⟩
  · intro hm
    exact absurd F.ns.lt ((List.mem_singleton.mp hm) ▸ Nat.lt_irrefl _)
  · intro b hb
    rw [List.mem_singleton.mp hb]
    exact hI₀
  · intro p hp hI
    exact absurd (Heap.lt_size (N p hp).1) ((List.mem_singleton.mp hI) ▸ Nat.lt_irrefl _)
  · rintro i v m₁ news₁ s₁ own ⟨hh', tk', rfl⟩ hin ⟨_, t, rfl⟩ hJ hoff hown hget hall hst F₁ N₁
    have hm := hall s.heap.objs.size (List.mem_singleton.mpr rfl) hI₀ _ hst
    have N₂ : News h₀ env.locals hh' ((s.heap.objs.size, { cls := .type "range_iterator", dict := none, data := .fields #[rawInt (a₀ + ((i + 1 : Nat) : Int) * d), rawInt ((n : Int) - ((i + 1 : Nat) : Int)), rawInt d], slots := #[] }) :: news₁) := fun p hp => by
      rcases List.mem_cons.mp hp with rfl | hp
      · exact N₁ _ (List.mem_append_left _ hm)
      · exact N₁ p (List.mem_append_right _ hp)
    refine wpAny_mono (turn i t m₁ news₁ hh' tk' _ hin hJ ⟨_, rfl⟩ F₁ N₂) (fun f s₂ p => ?_) fun _ _ e => e
    have fin : FreeEnd h₀ env.locals (J (i + 1)) (s.heap.objs.size, { cls := .type "range_iterator", dict := none, data := .fields #[rawInt (a₀ + ((i + 1 : Nat) : Int) * d), rawInt ((n : Int) - ((i + 1 : Nat) : Int)), rawInt d], slots := #[] }) { s with heap := hh', toks := tk' } s₂ →
        LoopStepU h₀ env.locals [s.heap.objs.size] own (J (i + 1)) { s with heap := hh', toks := tk' } .next s₂ := by
      rintro ⟨h', tk, m', news', nx, e, F', N', hn, hit, hc, hJ'⟩
      have hg := (N' _ hit).1
      refine ⟨rfl, h', tk, m', nx, e, F', fun p hp => ?_, fun p hp hI => ?_, hJ'⟩
      · rcases List.mem_append.mp hp with hp | hp
        · have h1 := List.mem_singleton.mp (hown p hp)
          have h2 := hget p hp
          obtain ⟨pa, po⟩ := p
          simp only at h1 h2
          subst h1
          have h3 : po = _ := Option.some.inj (h2.symm.trans hst)
          subst h3
          exact N' _ hit
        · exact N' p (hn p hp)
      · have h1 := List.mem_singleton.mp hI
        have h2 := (N' p (hn p hp)).1
        rw [h1, hg] at h2
        exact hc p hp _ (by rw [← Option.some.inj h2])
    cases f with
    | ret v => exact .ret p
    | brk => exact .brk p
    | next => exact .next (fin p)
    | cont => exact .cont (fin p)
  · rintro h' tk m' news' F' N' _ hJ
    exact done m' news' h' tk hJ F' N'
end
section
variable {prog : Program} {A : Around} {E : Value → Shared → Prop} {s : Shared} {env : Env} {h₀ : Heap} {x : Str} {body : List Stmt} {Q : Flow → Shared → Prop}
/-- the frame and the ledger between two turns -/
noncomputable def StJ {σ : Type} (Led : σ → List (Addr × Obj)) (ps : σ → List (Str × Value)) (Facts : σ → Prop) (x : Str) (stored : List Str) (m₀ : Str → Option Value) (m : Str → Option Value) (nx : List (Addr × Obj)) : Prop :=
  ∃ c : σ, nx = Led c ∧ Facts c ∧ (∀ p ∈ ps c, m p.1 = some p.2) ∧ (∀ z, z ≠ x → (∀ p ∈ ps c, z ≠ p.1) → stored.contains z = false → m z = m₀ z)
theorem range_st {σ : Type} {r : Addr} {a₀ b₀ d : Int} {t₀ u₀ v₀ : Tok} {n : Nat} {m₀ : Str → Option Value} (Led : σ → List (Addr × Obj)) (ps : σ → List (Str × Value)) (Facts : Nat → σ → Prop) (stored : List Str) (c₀ : σ)
    (hh : A.handled = none) (hr : IsRange s.heap r a₀ b₀ d t₀ u₀ v₀) (hsmall : Builtin.Range.small a₀ b₀ d = true) (hn : Builtin.Range.rangeSize a₀ b₀ d = (n : Int)) (F : Fr h₀ env.locals s.heap m₀) (N : News h₀ env.locals s.heap (Led c₀)) (hf : Facts 0 c₀) (hk : ∀ p ∈ ps c₀, m₀ p.1 = some p.2)
    (turn : ∀ (c : σ) i t (u : Str → Option Value) h tk (it : Addr × Obj), i < n → Facts i c → (∃ xs, it.2.data = .fields xs) →
      Fr h₀ env.locals h (fun y => if y = x then some (.int (a₀ + i * d) t) else kstB (fun z => if stored.contains z then u z else m₀ z) (ps c) y) → News h₀ env.locals h (it :: Led c) →
      wpAny (model prog w) A (execs body env) (FreePost h₀ env.locals (StJ Led ps (Facts (i + 1)) x stored m₀) it { s with heap := h, toks := tk } Q) E { s with heap := h, toks := tk })
    (done : ∀ (c : σ) (u : Str → Option Value) h tk, Facts n c → Fr h₀ env.locals h (fun y => if y = x then u y else kstB (fun z => if stored.contains z then u z else m₀ z) (ps c) y) → News h₀ env.locals h (Led c) → Q .next { s with heap := h, toks := tk }) :
    wpAny (model prog w) A (pyIter (.ref r)) (fun it s₂ => LoopAtV prog w A h₀ env x body Q E it s₂) E s := by
  refine range_free (fun i m nx => StJ Led ps (Facts i) x stored m₀ m nx) hh hr hsmall hn F N ⟨c₀, rfl, hf, hk, fun _ _ _ _ => rfl⟩ ?_ ?_
  · rintro i t m₁ nx h tk it hi ⟨c, rfl, hf', h1, h2⟩ hc F₁ N₁
    exact turn c i t m₁ h tk it hi hf' hc (kst_fr h1 h2 F₁) N₁
  · rintro m₁ nx h tk ⟨c, rfl, hf', h1, h2⟩ F₁ N₁
    exact done c m₁ h tk hf' (kst_frOut h1 h2 F₁) N₁
theorem st_end {σ : Type} {Led : σ → List (Addr × Obj)} {ps : σ → List (Str × Value)} {Facts : σ → Prop} {stored : List Str} {m₀ : Str → Option Value} (c : σ) {L : Addr} {m' : Str → Option Value} {news' : List (Addr × Obj)} {it : Addr × Obj} {s₁ : Shared} {h' : Heap} {tk : Nat}
    (F : Fr h₀ L h' m') (N : News h₀ L h' news') (hn : ∀ p ∈ Led c, p ∈ news') (hi : it ∈ news') (hc : ∀ p ∈ Led c, ∀ xs, p.2.data ≠ .fields xs) (hf : Facts c) (hk : ∀ p ∈ ps c, m' p.1 = some p.2) (hr : ∀ z, z ≠ x → (∀ p ∈ ps c, z ≠ p.1) → stored.contains z = false → m' z = m₀ z) :
    FreeEnd h₀ L (StJ Led ps Facts x stored m₀) it s₁ { s₁ with heap := h', toks := tk } := ⟨h', tk, m', news', Led c, rfl, F, N, hn, hi, hc, c, rfl, hf, hk, hr⟩
theorem item_last {value slice : Expr} {l : Addr} {vs : List Value} {u : Tok} {v : Value} {Q : Value → Shared → Prop} (hl : s.heap.IsList l vs.toArray) (hx : vs[vs.length - 1]? = some v) (h : Q v s) (hz : vs.length ≤ 100000)
    (hs : subscripted slice false (.ref l) (.int (-1) u) = operate [.ref l, .int (-1) u] (getItem (.ref l) (.int (-1) u)) := by with_unfolding_all rfl) :
    wpAny (model prog w) A (subscriptTail value slice (.ref l) (.int (-1) u)) Q E s := by
  have hlt : vs.length - 1 < vs.length := by
    cases e : vs with
    | nil => rw [e] at hx; simp at hx
    | cons _ _ => simp
  refine tail_any hl.typeIs slot_list_getitem.lookup (wpAny_getItem_list_neg hl (by decide) (by simp; omega) (by decide) (x := v) ?_ h) hs
  have e : (-1 + (vs.toArray.size : Int)).toNat = vs.length - 1 := by simp; omega
  rw [e]; simpa using hx
end
theorem All2.last {α : Type} {R : Value → α → Prop} {vs : List Value} {as : List α} (x : All2 R vs as) (h : as ≠ []) (d : α) : ∃ v, vs[vs.length - 1]? = some v ∧ R v (as.getLast?.getD d) := by
  have hl := x.length
  obtain ⟨v, hv, r⟩ := x.get (i := as.length - 1) (a := as.getLast h) (by rw [← List.getLast?_eq_getElem?, List.getLast?_eq_some_getLast h])
  exact ⟨v, by rw [hl]; exact hv, by rw [List.getLast?_eq_some_getLast h]; exact r⟩
local macro_rules
  | `(tactic| walk_at "subscriptTail") => `(tactic| (k_here; (with_reducible show wpAny _ _ (subscriptTail _ _ (Value.ref _) (Value.int (-1) _)) _ _ _); (with_unfolding_all refine' item_last ?k1 ?k2 ?_ ?k3 ?k6; (case k1 => is_list); (case k2 => assumption); (case k3 => omega); (case k6 => with_unfolding_all rfl); k_whole)))
noncomputable def lawRow (p : Int) : Int × List (Int × Int) := (ROWS.filter fun r => decide (r.1 ≤ p)).getLast?.getD (0, [])
noncomputable def formGo : List (Int × Int) → Int → List Int → List Int
  | [], _, acc => acc
  | (lo, be) :: r, rest, acc => formGo r (rest.fdiv (be - lo)) ((lo + rest.fmod (be - lo)) :: acc)
noncomputable def lawForm (p : Int) : List Int := formGo (lawRow p).2.reverse (p - (lawRow p).1) []
theorem lawRow_mem {p : Int} (h : 0 ≤ p) : lawRow p ∈ ROWS ∧ (lawRow p).1 ≤ p ∧ (ROWS.filter fun r => decide (r.1 ≤ p)) ≠ [] := by
  have hne : (ROWS.filter fun r => decide (r.1 ≤ p)) ≠ [] := by
    intro e
    have : ((0 : Int), [((0 : Int), (128 : Int))]) ∈ ROWS.filter fun r => decide (r.1 ≤ p) := List.mem_filter.mpr ⟨by decide, by simpa using h⟩
    rw [e] at this; cases this
  have : lawRow p ∈ ROWS.filter fun r => decide (r.1 ≤ p) := by
    unfold lawRow
    rw [List.getLast?_eq_some_getLast hne]
    exact List.getLast_mem hne
  have := List.mem_filter.mp this
  exact ⟨this.1, by simpa using this.2, hne⟩
theorem rows_small : ∀ r ∈ ROWS, r.2.length ≤ 4 ∧ 1 ≤ r.2.length ∧ (∀ p ∈ r.2, 0 ≤ p.1 ∧ p.1 < p.2 ∧ p.2 ≤ 256) ∧ 0 ≤ r.1 ∧ r.1 ≤ 1114112 := by decide
set_option maxHeartbeats 4000000 in
theorem gives_form (l : Addr) (p : Int) (t : Tok) (s : Shared) (hl : RowsAt s.heap l ROWS) (hp0 : 0 ≤ p) (hp1 : p < 1114112) :
    Gives w mean mg mb 113 [.ref l, .int p t] s 2 16 (fun r h => ∃ o, r = .ref o ∧ s.heap.get? o = none ∧ IntsAt h o (lawForm p)) := by
  intro dp un gd cn cs a ccd cl outer A₀ base h₀ L m Q E B F X T hk hd hu hret
  obtain ⟨us, hl, hp⟩ := hl
  k_dflt (refine' enter_ofC (binds := [(Str.ofString "rows", .ref l), (Str.ofString "point", .int p t)]) ?kB ?kF ?kX ?kT ?kk ?k1 ?k2 ?k3 ?k4 ?k5 ?k6 ?_ ?c1 ?c2 ?c3)
  (case kB => assumption); (case kF => assumption); (case kX => assumption); (case kT => assumption); (case kk => assumption)
  (case k1 => k_is); (case k2 => k_is); (case k3 => omega); (case k4 => exact BindsTo.of_eq rfl); (case k5 => exact rfl); (case k6 => decide +kernel)
  (case c1 => exact rfl); (case c2 => exact rfl); (case c3 => exact rfl)
  intro h₁ tk₁ cells₁ F₁ N₁ Y₁ B₁ X₁ T₁; k_cells Y₁; (try dsimp only)
  clear B F X T
  show wpAny _ _ _ _ _ _
  k_fold
  k_steps
  (rename Fr _ _ _ _ => F9); (rename News _ _ _ _ => N9)
  refine Hold.mk ?_
  refine listcomp_filt (R := RowAt s.heap) (p := fun r => decide (r.1 ≤ p)) rfl F9 N9 hl (by rw [hp.length]; decide) hp (by with_unfolding_all rfl) (by decide) rfl (by decide) rfl (by decide) ?src ?test ?fin
  case src => intro Q' hq; k_steps; exact hq _
  case test =>
    intro g0 v r I oI C oC D ys m₂ h tk E' hv hC hm F2 N2 off
    obtain ⟨tt, ta, tl, rfl, ht, hlets⟩ := hv
    k_steps
  case fin =>
    intro D zs h tk hz F2 N2 off
    have hrow := lawRow_mem hp0
    obtain ⟨v, hv, tt, ta, tl, rfl, ht, us2, hl2, hp2⟩ := hz.last hrow.2.2 (0, [])
    have hz100 : zs.length ≤ 100 := by rw [hz.length]; exact Nat.le_trans (List.length_filter_le _ _) (by decide)
    change IsTup s.heap tt [Value.int (lawRow p).1 ta, Value.ref tl].toArray at ht
    change All2 (PairAt s.heap) us2 (lawRow p).2 at hp2
    have hsm := rows_small _ hrow.1
    generalize hR : lawRow p = R at *
    obtain ⟨least, lets⟩ := R
    dsimp only at ht hp2 hsm
    k_steps
    refine Hold.mk ?_
    (rename Fr _ _ _ _ => F9); (rename News _ _ _ _ => N9); (rename IsRange _ _ _ _ _ _ _ _ => R9)
    refine' range_st (σ := Addr × List Value × Nat × List Int × Int × Tok) (n := lets.length) (fun c => [(c.1, W.listOf c.2.1.toArray c.2.2.1)]) (fun c => [(Str.ofString "rest", .int c.2.2.2.2.1 c.2.2.2.2.2), (Str.ofString "form", .ref c.1)])
      (fun i c => IntsAre c.2.1 c.2.2.2.1 ∧ c.2.2.2.1.length = i ∧ formGo (lets.reverse.drop i) c.2.2.2.2.1 c.2.2.2.1 = lawForm p) [Str.ofString "low", Str.ofString "behind"]
      (_, [], 0, [], p - least, _) rfl R9 (small_down (by omega) (by omega) (by omega) (by omega)) (by rw [rangeSize_downNat]; omega) F9 (fun q hq => N9 q (by simp at hq; rw [hq]; exact .head _)) ⟨.nil, rfl, by unfold lawForm; rw [hR]; rfl⟩ (by kst_all) ?_ ?_
    · rintro ⟨fa, vs, n, acc, rest, tr⟩ i tk2 u h2 tk3 it hi ⟨hvs, hlen, hgo⟩ hit F2 N2
      have hj : lets.length - 1 - i < lets.length := by omega
      obtain ⟨v, hv2, t2, ta2, tb2, rfl, htup⟩ := hp2.get (i := lets.length - 1 - i) (a := lets[lets.length - 1 - i]) (by simp [hj])
      have hkk : ((lets.length : Int) - 1 + (i : Int) * -1).toNat = lets.length - 1 - i := by omega
      have hv3 : us2[((lets.length : Int) - 1 + (i : Int) * -1).toNat]? = some (Value.ref t2) := by rw [hkk]; exact hv2
      have hpos := hsm.2.2.1 lets[lets.length - 1 - i] (List.getElem_mem hj)
      have hdrop : lets.reverse.drop i = lets[lets.length - 1 - i] :: lets.reverse.drop (i + 1) := by
        rw [List.drop_eq_getElem_cons (by simpa using hi), List.getElem_reverse]
      rw [hdrop] at hgo
      generalize hlb : lets[lets.length - 1 - i] = lb at *
      obtain ⟨lo, be⟩ := lb
      have hvl : vs.length ≤ 4 := by rw [hvs.length]; omega
      dsimp only at htup hpos hgo F2 N2
      show wpAny _ _ _ _ _ _
      k_fold
      k_steps
      (rename Fr _ _ _ _ => F8); (rename News _ _ _ _ => N8); (rename IntsAre _ _ => I8)
      dsimp only [FreePost]
      refine st_end (_, _, 0, _, rest.fdiv (be - lo), _) F8 N8 (fun q hq => by simp at hq; rw [hq]; exact .head _) (by simp) (fun q hq xs h => by simp at hq; rw [hq] at h; cases h) ⟨I8, by simp [hlen], hgo⟩ (by kst_all) ?_
      intro z q1 q2 q3
      simp only [List.contains_cons, List.contains_nil, Bool.or_false, Bool.or_eq_false_iff, beq_eq_false_iff_ne, ne_eq] at q3
      have q4 := q2 _ (.head _)
      have q5 := q2 _ (.tail _ (.head _))
      dsimp only at q4 q5
      simp [kstB, q1, q3, q4, q5]
    · rintro ⟨fa, vs, n, acc, rest, tr⟩ u h2 tk3 ⟨hvs, hlen, hgo⟩ F2 N2
      rw [show lets.reverse.drop lets.length = [] from List.drop_eq_nil_of_le (by simp)] at hgo
      dsimp only at F2 N2 hvs hgo
      k_steps
      (try dsimp only)
      refine hret _ _ _ (Fr.keep (by assumption)) ⟨_, rfl, (N2 _ (.head _)).2.2, vs, n, (N2 _ (.head _)).1, ?_⟩
      rw [← hgo]; exact hvs
noncomputable def u8 (c : Nat) : List Int :=
  if c < 128 then [(c : Int)] else if c < 2048 then [((192 + c / 64 : Nat) : Int), ((128 + c % 64 : Nat) : Int)]
  else if c < 65536 then [((224 + c / 4096 : Nat) : Int), ((128 + c / 64 % 64 : Nat) : Int), ((128 + c % 64 : Nat) : Int)]
  else [((240 + c / 262144 : Nat) : Int), ((128 + c / 4096 % 64 : Nat) : Int), ((128 + c / 64 % 64 : Nat) : Int), ((128 + c % 64 : Nat) : Int)]
theorem u8_len (c : Nat) : 1 ≤ (u8 c).length ∧ (u8 c).length ≤ 4 := by
  unfold u8
  split
  · simp
  split
  · simp
  split <;> simp
noncomputable def ValidP (p : Int) : Prop := 0 ≤ p ∧ p < 1114112 ∧ ¬ (55296 ≤ p ∧ p < 57344)
theorem d64 (x : Nat) {y : Nat} (h : y < 64) : (x * 64 + y) / 64 = x ∧ (x * 64 + y) % 64 = y := by omega
theorem dv2 (c : Nat) : c / 4096 = c / 64 / 64 := (Nat.div_div_eq_div_mul c 64 64).symm
theorem dv3 (c : Nat) : c / 262144 = c / 64 / 64 / 64 := by rw [Nat.div_div_eq_div_mul, Nat.div_div_eq_div_mul]
theorem u8_2 {x y : Nat} (h1 : 128 ≤ x * 64 + y) (hx : x < 32) (hy : y < 64) : u8 (x * 64 + y) = [192 + (x : Int), 128 + (y : Int)] := by
  unfold u8
  rw [if_neg (by omega), if_pos (by omega), (d64 x hy).1, (d64 x hy).2]
  rfl
theorem u8_3 {x y z : Nat} (h1 : 2048 ≤ (x * 64 + y) * 64 + z) (hx : x < 16) (hy : y < 64) (hz : z < 64) : u8 ((x * 64 + y) * 64 + z) = [224 + (x : Int), 128 + (y : Int), 128 + (z : Int)] := by
  unfold u8
  rw [if_neg (by omega), if_neg (by omega), if_pos (by omega), dv2, (d64 _ hz).1, (d64 _ hz).2, (d64 _ hy).1, (d64 _ hy).2]
  rfl
theorem u8_4 {x y z v : Nat} (h1 : 65536 ≤ ((x * 64 + y) * 64 + z) * 64 + v) (hy : y < 64) (hz : z < 64) (hv : v < 64) : u8 (((x * 64 + y) * 64 + z) * 64 + v) = [240 + (x : Int), 128 + (y : Int), 128 + (z : Int), 128 + (v : Int)] := by
  unfold u8
  rw [if_neg (by omega), if_neg (by omega), if_neg (by omega), dv3, dv2, (d64 _ hv).1, (d64 _ hv).2, (d64 _ hz).1, (d64 _ hz).2, (d64 _ hy).1, (d64 _ hy).2]
  rfl
/-- the octets l are the form of q -/
noncomputable def Enc (l : List Int) (q : Int) : Prop :=
  (∃ a, l = [a] ∧ q = a ∧ 0 ≤ a ∧ a < 128) ∨
  (∃ a b, l = [a, b] ∧ q = (a - 192) * 64 + (b - 128) ∧ (192 ≤ a ∧ a < 224) ∧ (128 ≤ b ∧ b < 192) ∧ 128 ≤ q) ∨
  (∃ a b c, l = [a, b, c] ∧ q = ((a - 224) * 64 + (b - 128)) * 64 + (c - 128) ∧ (224 ≤ a ∧ a < 240) ∧ (128 ≤ b ∧ b < 192) ∧ (128 ≤ c ∧ c < 192) ∧ 2048 ≤ q ∧ ¬ (55296 ≤ q ∧ q < 57344)) ∨
  (∃ a b c d, l = [a, b, c, d] ∧ q = (((a - 240) * 64 + (b - 128)) * 64 + (c - 128)) * 64 + (d - 128) ∧ (240 ≤ a ∧ a < 248) ∧ (128 ≤ b ∧ b < 192) ∧ (128 ≤ c ∧ c < 192) ∧ (128 ≤ d ∧ d < 192) ∧ 65536 ≤ q ∧ q < 1114112)
theorem off_nat {a : Int} (k : Int) (h : k ≤ a) : ∃ x : Nat, a = k + (x : Int) := ⟨(a - k).toNat, by omega⟩
theorem Enc.u8 {l : List Int} {q : Int} (h : Enc l q) : ∃ n : Nat, q = (n : Int) ∧ ValidP q ∧ Mine.u8 n = l := by
  rcases h with ⟨a, rfl, rfl, h0, h1⟩ | ⟨a, b, rfl, hq, ha, hb, h1⟩ | ⟨a, b, c, rfl, hq, ha, hb, hc, h1, h2⟩ | ⟨a, b, c, d, rfl, hq, ha, hb, hc, hd, h1, h2⟩
  · obtain ⟨x, rfl⟩ := off_nat 0 h0
    refine ⟨x, by omega, ⟨h0, by omega, by omega⟩, ?_⟩
    unfold Mine.u8
    rw [if_pos (by omega), Int.zero_add]
  · obtain ⟨x, rfl⟩ := off_nat 192 ha.1
    obtain ⟨y, rfl⟩ := off_nat 128 hb.1
    have e : q = ((x * 64 + y : Nat) : Int) := by rw [hq]; omega
    clear hq
    exact ⟨_, e, ⟨by omega, by omega, by omega⟩, u8_2 (by omega) (by omega) (by omega)⟩
  · obtain ⟨x, rfl⟩ := off_nat 224 ha.1
    obtain ⟨y, rfl⟩ := off_nat 128 hb.1
    obtain ⟨z, rfl⟩ := off_nat 128 hc.1
    have e : q = (((x * 64 + y) * 64 + z : Nat) : Int) := by rw [hq]; omega
    clear hq
    exact ⟨_, e, ⟨by omega, by omega, h2⟩, u8_3 (by omega) (by omega) (by omega) (by omega)⟩
  · obtain ⟨x, rfl⟩ := off_nat 240 ha.1
    obtain ⟨y, rfl⟩ := off_nat 128 hb.1
    obtain ⟨z, rfl⟩ := off_nat 128 hc.1
    obtain ⟨v, rfl⟩ := off_nat 128 hd.1
    have e : q = ((((x * 64 + y) * 64 + z) * 64 + v : Nat) : Int) := by rw [hq]; omega
    clear hq
    exact ⟨_, e, ⟨by omega, h2, by omega⟩, u8_4 (by omega) (by omega) (by omega) (by omega)⟩
theorem Enc.of_u8 {n : Nat} (h : ValidP (n : Int)) : Enc (Mine.u8 n) (n : Int) := by
  obtain ⟨-, h1, h2⟩ := h
  unfold Mine.u8
  by_cases a1 : n < 128
  · rw [if_pos a1]
    exact .inl ⟨_, rfl, rfl, by omega, by omega⟩
  rw [if_neg a1]
  by_cases a2 : n < 2048
  · rw [if_pos a2]
    exact .inr (.inl ⟨_, _, rfl, by omega, by omega, by omega, by omega⟩)
  rw [if_neg a2]
  by_cases a3 : n < 65536
  · rw [if_pos a3, dv2]
    exact .inr (.inr (.inl ⟨_, _, _, rfl, by omega, by omega, by omega, by omega, by omega, h2⟩))
  · rw [if_neg a3, dv3, dv2]
    exact .inr (.inr (.inr ⟨_, _, _, _, rfl, by omega, by omega, by omega, by omega, by omega, by omega, h1⟩))
theorem Enc.in {l : List Int} {q : Int} (h : Enc l q) : 1 ≤ l.length ∧ l.length ≤ 4 ∧ ∀ n ∈ l, 0 ≤ n ∧ n < 256 := by
  rcases h with ⟨a, rfl, _, h0, h1⟩ | ⟨a, b, rfl, _, ha, hb, _⟩ | ⟨a, b, c, rfl, _, ha, hb, hc, _, _⟩ | ⟨a, b, c, d, rfl, _, ha, hb, hc, hd, _, _⟩
  all_goals refine ⟨Nat.le_of_ble_eq_true rfl, Nat.le_of_ble_eq_true rfl, fun n hn => ?_⟩
  all_goals simp only [List.mem_cons, List.not_mem_nil, or_false] at hn
  · omega
  · omega
  · omega
  · omega
theorem u8_in {c : Nat} (h : ValidP (c : Int)) : ∀ n ∈ u8 c, 0 ≤ n ∧ n < 256 := (Enc.of_u8 h).in.2.2
noncomputable def strOf (l : List Nat) : Str := ⟨l.toArray⟩
theorem strOf_snoc (l : List Nat) (n : Nat) : strOf (l ++ [n]) = strOf l ++ ⟨#[n]⟩ := by
  refine PySem.Str.ext' (Array.toList_inj.mp ?_)
  rw [PySem.Str.cps_append, Array.toList_append]
  rfl
theorem strOf_length (l : List Nat) : (strOf l).length = l.length := by show l.toArray.size = l.length; simp
theorem All2.withMem {α : Type} {R : Value → α → Prop} {vs : List Value} {as : List α} (x : All2 R vs as) : All2 (fun v a => R v a ∧ a ∈ as) vs as := by
  induction x with
  | nil => exact .nil
  | cons r _ ih => exact .cons ⟨r, List.mem_cons_self⟩ (ih.mono fun _ _ y => ⟨y.1, List.mem_cons_of_mem _ y.2⟩)
noncomputable def countTo (lets : List (Int × Int)) (ns : List Int) (i : Nat) : Nat → Int
  | 0 => 0
  | k + 1 => countTo lets ns i k * ((lets.getD k (0, 0)).2 - (lets.getD k (0, 0)).1) + ns.getD (i + k) 0 - (lets.getD k (0, 0)).1
noncomputable def pointAt (r : Int × List (Int × Int)) (ns : List Int) (i : Nat) : Int := r.1 + countTo r.2 ns i r.2.length
noncomputable def readGo (ns : List Int) : Nat → Nat → List Nat → List Nat × Nat
  | 0, i, acc => (acc, i)
  | f + 1, i, acc => if i < ns.length then
      match (ROWS.filter fun r => lawFits r.2 ns i).head? with
      | none => (acc, i)
      | some r => readGo ns f (i + r.2.length) (acc ++ [(pointAt r ns i).toNat])
    else (acc, i)
theorem fits_spec {lets : List (Int × Int)} {ns : List Int} {i : Nat} (h : lawFits lets ns i = true) : i + lets.length ≤ ns.length ∧ ∀ j : Nat, j < lets.length → (lets.getD j (0, 0)).1 ≤ ns.getD (i + j) 0 ∧ ns.getD (i + j) 0 < (lets.getD j (0, 0)).2 := by
  unfold lawFits at h
  simp only [Bool.and_eq_true, decide_eq_true_eq, List.all_eq_true, List.mem_range] at h
  refine ⟨by omega, fun j hj => ?_⟩
  simpa using h.2 j hj
theorem eq_one {a k : Int} (h : k ≤ a ∧ a < k + 1) : a = k := by omega
theorem enc2 {a b : Int} (ha : 194 ≤ a ∧ a < 224) (hb : 128 ≤ b ∧ b < 192) : Enc [a, b] ((a - 192) * 64 + (b - 128)) := .inr (.inl ⟨a, b, rfl, rfl, ⟨by omega, ha.2⟩, hb, by omega⟩)
theorem enc3 {a b c : Int} (ha : 224 ≤ a ∧ a < 240) (hb : 128 ≤ b ∧ b < 192) (hc : 128 ≤ c ∧ c < 192) (h1 : a = 224 → 160 ≤ b) (h2 : a = 237 → b < 160) : Enc [a, b, c] (((a - 224) * 64 + (b - 128)) * 64 + (c - 128)) :=
  .inr (.inr (.inl ⟨a, b, c, rfl, rfl, ha, hb, hc, by omega, by omega⟩))
theorem enc4 {a b c d : Int} (ha : 240 ≤ a ∧ a < 245) (hb : 128 ≤ b ∧ b < 192) (hc : 128 ≤ c ∧ c < 192) (hd : 128 ≤ d ∧ d < 192) (h1 : a = 240 → 144 ≤ b) (h2 : a = 244 → b < 144) : Enc [a, b, c, d] ((((a - 240) * 64 + (b - 128)) * 64 + (c - 128)) * 64 + (d - 128)) :=
  .inr (.inr (.inr ⟨a, b, c, d, rfl, rfl, ⟨ha.1, by omega⟩, hb, hc, hd, by omega, by omega⟩))
/-- what a row lets is the form of its point -/
theorem row_enc {r : Int × List (Int × Int)} {ns : List Int} {i : Nat} (hr : r ∈ ROWS) (h : lawFits r.2 ns i = true) : Enc ((List.range r.2.length).map fun j => ns.getD (i + j) 0) (pointAt r ns i) := by
  have h2 := (fits_spec h).2
  clear h
  simp only [ROWS, tailP, List.mem_cons, List.not_mem_nil, or_false] at hr
  rcases hr with rfl | rfl | rfl | rfl | rfl | rfl | rfl | rfl | rfl
  · have g0 : 0 ≤ ns.getD i 0 ∧ ns.getD i 0 < 128 := h2 0 (Nat.le_of_ble_eq_true rfl)
    show Enc [ns.getD i 0] (0 + (0 * (128 - 0) + (ns.getD i 0) - 0))
    clear h2
    generalize ns.getD i 0 = a at g0 ⊢
    rw [show (0 + (0 * (128 - 0) + a - 0) : Int) = a by omega]
    exact .inl ⟨a, rfl, rfl, g0.1, g0.2⟩
  · have g0 : 194 ≤ ns.getD i 0 ∧ ns.getD i 0 < 224 := h2 0 (Nat.le_of_ble_eq_true rfl)
    have g1 : 128 ≤ ns.getD (i + 1) 0 ∧ ns.getD (i + 1) 0 < 192 := h2 1 (Nat.le_of_ble_eq_true rfl)
    show Enc [ns.getD i 0, ns.getD (i + 1) 0] (128 + ((0 * (224 - 194) + (ns.getD i 0) - 194) * (192 - 128) + (ns.getD (i + 1) 0) - 128))
    clear h2
    generalize ns.getD i 0 = a at g0 ⊢
    generalize ns.getD (i + 1) 0 = b at g1 ⊢
    rw [show (128 + ((0 * (224 - 194) + a - 194) * (192 - 128) + b - 128) : Int) = (a - 192) * 64 + (b - 128) by clear g0 g1; omega]
    exact enc2 g0 g1
  · have g0 : 224 ≤ ns.getD i 0 ∧ ns.getD i 0 < 225 := h2 0 (Nat.le_of_ble_eq_true rfl)
    have g1 : 160 ≤ ns.getD (i + 1) 0 ∧ ns.getD (i + 1) 0 < 192 := h2 1 (Nat.le_of_ble_eq_true rfl)
    have g2 : 128 ≤ ns.getD (i + 2) 0 ∧ ns.getD (i + 2) 0 < 192 := h2 2 (Nat.le_of_ble_eq_true rfl)
    show Enc [ns.getD i 0, ns.getD (i + 1) 0, ns.getD (i + 2) 0] (2048 + (((0 * (225 - 224) + (ns.getD i 0) - 224) * (192 - 160) + (ns.getD (i + 1) 0) - 160) * (192 - 128) + (ns.getD (i + 2) 0) - 128))
    clear h2
    generalize ns.getD i 0 = a at g0 ⊢
    generalize ns.getD (i + 1) 0 = b at g1 ⊢
    generalize ns.getD (i + 2) 0 = c at g2 ⊢
    obtain rfl := eq_one (k := 224) g0
    rw [show (2048 + (((0 * (225 - 224) + 224 - 224) * (192 - 160) + b - 160) * (192 - 128) + c - 128) : Int) = ((224 - 224) * 64 + (b - 128)) * 64 + (c - 128) by clear g1 g2; omega]
    exact enc3 ⟨by decide, by decide⟩ ⟨Int.le_trans (by decide) g1.1, g1.2⟩ g2 (fun _ => g1.1) (fun z => absurd z (by decide))
  · have g0 : 225 ≤ ns.getD i 0 ∧ ns.getD i 0 < 237 := h2 0 (Nat.le_of_ble_eq_true rfl)
    have g1 : 128 ≤ ns.getD (i + 1) 0 ∧ ns.getD (i + 1) 0 < 192 := h2 1 (Nat.le_of_ble_eq_true rfl)
    have g2 : 128 ≤ ns.getD (i + 2) 0 ∧ ns.getD (i + 2) 0 < 192 := h2 2 (Nat.le_of_ble_eq_true rfl)
    show Enc [ns.getD i 0, ns.getD (i + 1) 0, ns.getD (i + 2) 0] (4096 + (((0 * (237 - 225) + (ns.getD i 0) - 225) * (192 - 128) + (ns.getD (i + 1) 0) - 128) * (192 - 128) + (ns.getD (i + 2) 0) - 128))
    clear h2
    generalize ns.getD i 0 = a at g0 ⊢
    generalize ns.getD (i + 1) 0 = b at g1 ⊢
    generalize ns.getD (i + 2) 0 = c at g2 ⊢
    rw [show (4096 + (((0 * (237 - 225) + a - 225) * (192 - 128) + b - 128) * (192 - 128) + c - 128) : Int) = ((a - 224) * 64 + (b - 128)) * 64 + (c - 128) by clear g0 g1 g2; omega]
    exact enc3 ⟨Int.le_trans (by decide) g0.1, Int.lt_of_lt_of_le g0.2 (by decide)⟩ g1 g2 (fun z => absurd (z ▸ g0.1) (by decide)) (fun z => absurd (z ▸ g0.2) (by decide))
  · have g0 : 237 ≤ ns.getD i 0 ∧ ns.getD i 0 < 238 := h2 0 (Nat.le_of_ble_eq_true rfl)
    have g1 : 128 ≤ ns.getD (i + 1) 0 ∧ ns.getD (i + 1) 0 < 160 := h2 1 (Nat.le_of_ble_eq_true rfl)
    have g2 : 128 ≤ ns.getD (i + 2) 0 ∧ ns.getD (i + 2) 0 < 192 := h2 2 (Nat.le_of_ble_eq_true rfl)
    show Enc [ns.getD i 0, ns.getD (i + 1) 0, ns.getD (i + 2) 0] (53248 + (((0 * (238 - 237) + (ns.getD i 0) - 237) * (160 - 128) + (ns.getD (i + 1) 0) - 128) * (192 - 128) + (ns.getD (i + 2) 0) - 128))
    clear h2
    generalize ns.getD i 0 = a at g0 ⊢
    generalize ns.getD (i + 1) 0 = b at g1 ⊢
    generalize ns.getD (i + 2) 0 = c at g2 ⊢
    obtain rfl := eq_one (k := 237) g0
    rw [show (53248 + (((0 * (238 - 237) + 237 - 237) * (160 - 128) + b - 128) * (192 - 128) + c - 128) : Int) = ((237 - 224) * 64 + (b - 128)) * 64 + (c - 128) by clear g1 g2; omega]
    exact enc3 ⟨by decide, by decide⟩ ⟨g1.1, Int.lt_trans g1.2 (by decide)⟩ g2 (fun z => absurd z (by decide)) (fun _ => g1.2)
  · have g0 : 238 ≤ ns.getD i 0 ∧ ns.getD i 0 < 240 := h2 0 (Nat.le_of_ble_eq_true rfl)
    have g1 : 128 ≤ ns.getD (i + 1) 0 ∧ ns.getD (i + 1) 0 < 192 := h2 1 (Nat.le_of_ble_eq_true rfl)
    have g2 : 128 ≤ ns.getD (i + 2) 0 ∧ ns.getD (i + 2) 0 < 192 := h2 2 (Nat.le_of_ble_eq_true rfl)
    show Enc [ns.getD i 0, ns.getD (i + 1) 0, ns.getD (i + 2) 0] (57344 + (((0 * (240 - 238) + (ns.getD i 0) - 238) * (192 - 128) + (ns.getD (i + 1) 0) - 128) * (192 - 128) + (ns.getD (i + 2) 0) - 128))
    clear h2
    generalize ns.getD i 0 = a at g0 ⊢
    generalize ns.getD (i + 1) 0 = b at g1 ⊢
    generalize ns.getD (i + 2) 0 = c at g2 ⊢
    rw [show (57344 + (((0 * (240 - 238) + a - 238) * (192 - 128) + b - 128) * (192 - 128) + c - 128) : Int) = ((a - 224) * 64 + (b - 128)) * 64 + (c - 128) by clear g0 g1 g2; omega]
    exact enc3 ⟨Int.le_trans (by decide) g0.1, Int.lt_of_lt_of_le g0.2 (by decide)⟩ g1 g2 (fun z => absurd (z ▸ g0.1) (by decide)) (fun z => absurd (z ▸ g0.1) (by decide))
  · have g0 : 240 ≤ ns.getD i 0 ∧ ns.getD i 0 < 241 := h2 0 (Nat.le_of_ble_eq_true rfl)
    have g1 : 144 ≤ ns.getD (i + 1) 0 ∧ ns.getD (i + 1) 0 < 192 := h2 1 (Nat.le_of_ble_eq_true rfl)
    have g2 : 128 ≤ ns.getD (i + 2) 0 ∧ ns.getD (i + 2) 0 < 192 := h2 2 (Nat.le_of_ble_eq_true rfl)
    have g3 : 128 ≤ ns.getD (i + 3) 0 ∧ ns.getD (i + 3) 0 < 192 := h2 3 (Nat.le_of_ble_eq_true rfl)
    show Enc [ns.getD i 0, ns.getD (i + 1) 0, ns.getD (i + 2) 0, ns.getD (i + 3) 0] (65536 + ((((0 * (241 - 240) + (ns.getD i 0) - 240) * (192 - 144) + (ns.getD (i + 1) 0) - 144) * (192 - 128) + (ns.getD (i + 2) 0) - 128) * (192 - 128) + (ns.getD (i + 3) 0) - 128))
    clear h2
    generalize ns.getD i 0 = a at g0 ⊢
    generalize ns.getD (i + 1) 0 = b at g1 ⊢
    generalize ns.getD (i + 2) 0 = c at g2 ⊢
    generalize ns.getD (i + 3) 0 = d at g3 ⊢
    obtain rfl := eq_one (k := 240) g0
    rw [show (65536 + ((((0 * (241 - 240) + 240 - 240) * (192 - 144) + b - 144) * (192 - 128) + c - 128) * (192 - 128) + d - 128) : Int) = (((240 - 240) * 64 + (b - 128)) * 64 + (c - 128)) * 64 + (d - 128) by clear g1 g2 g3; omega]
    exact enc4 ⟨by decide, by decide⟩ ⟨Int.le_trans (by decide) g1.1, g1.2⟩ g2 g3 (fun _ => g1.1) (fun z => absurd z (by decide))
  · have g0 : 241 ≤ ns.getD i 0 ∧ ns.getD i 0 < 244 := h2 0 (Nat.le_of_ble_eq_true rfl)
    have g1 : 128 ≤ ns.getD (i + 1) 0 ∧ ns.getD (i + 1) 0 < 192 := h2 1 (Nat.le_of_ble_eq_true rfl)
    have g2 : 128 ≤ ns.getD (i + 2) 0 ∧ ns.getD (i + 2) 0 < 192 := h2 2 (Nat.le_of_ble_eq_true rfl)
    have g3 : 128 ≤ ns.getD (i + 3) 0 ∧ ns.getD (i + 3) 0 < 192 := h2 3 (Nat.le_of_ble_eq_true rfl)
    show Enc [ns.getD i 0, ns.getD (i + 1) 0, ns.getD (i + 2) 0, ns.getD (i + 3) 0] (262144 + ((((0 * (244 - 241) + (ns.getD i 0) - 241) * (192 - 128) + (ns.getD (i + 1) 0) - 128) * (192 - 128) + (ns.getD (i + 2) 0) - 128) * (192 - 128) + (ns.getD (i + 3) 0) - 128))
    clear h2
    generalize ns.getD i 0 = a at g0 ⊢
    generalize ns.getD (i + 1) 0 = b at g1 ⊢
    generalize ns.getD (i + 2) 0 = c at g2 ⊢
    generalize ns.getD (i + 3) 0 = d at g3 ⊢
    rw [show (262144 + ((((0 * (244 - 241) + a - 241) * (192 - 128) + b - 128) * (192 - 128) + c - 128) * (192 - 128) + d - 128) : Int) = (((a - 240) * 64 + (b - 128)) * 64 + (c - 128)) * 64 + (d - 128) by clear g0 g1 g2 g3; omega]
    exact enc4 ⟨Int.le_trans (by decide) g0.1, Int.lt_of_lt_of_le g0.2 (by decide)⟩ g1 g2 g3 (fun z => absurd (z ▸ g0.1) (by decide)) (fun z => absurd (z ▸ g0.2) (by decide))
  · have g0 : 244 ≤ ns.getD i 0 ∧ ns.getD i 0 < 245 := h2 0 (Nat.le_of_ble_eq_true rfl)
    have g1 : 128 ≤ ns.getD (i + 1) 0 ∧ ns.getD (i + 1) 0 < 144 := h2 1 (Nat.le_of_ble_eq_true rfl)
    have g2 : 128 ≤ ns.getD (i + 2) 0 ∧ ns.getD (i + 2) 0 < 192 := h2 2 (Nat.le_of_ble_eq_true rfl)
    have g3 : 128 ≤ ns.getD (i + 3) 0 ∧ ns.getD (i + 3) 0 < 192 := h2 3 (Nat.le_of_ble_eq_true rfl)
    show Enc [ns.getD i 0, ns.getD (i + 1) 0, ns.getD (i + 2) 0, ns.getD (i + 3) 0] (1048576 + ((((0 * (245 - 244) + (ns.getD i 0) - 244) * (144 - 128) + (ns.getD (i + 1) 0) - 128) * (192 - 128) + (ns.getD (i + 2) 0) - 128) * (192 - 128) + (ns.getD (i + 3) 0) - 128))
    clear h2
    generalize ns.getD i 0 = a at g0 ⊢
    generalize ns.getD (i + 1) 0 = b at g1 ⊢
    generalize ns.getD (i + 2) 0 = c at g2 ⊢
    generalize ns.getD (i + 3) 0 = d at g3 ⊢
    obtain rfl := eq_one (k := 244) g0
    rw [show (1048576 + ((((0 * (245 - 244) + 244 - 244) * (144 - 128) + b - 128) * (192 - 128) + c - 128) * (192 - 128) + d - 128) : Int) = (((244 - 240) * 64 + (b - 128)) * 64 + (c - 128)) * 64 + (d - 128) by clear g1 g2 g3; omega]
    exact enc4 ⟨by decide, by decide⟩ ⟨g1.1, Int.lt_trans g1.2 (by decide)⟩ g2 g3 (fun z => absurd z (by decide)) (fun _ => g1.2)
theorem point_range {r : Int × List (Int × Int)} {ns : List Int} {i : Nat} (hr : r ∈ ROWS) (h : lawFits r.2 ns i = true) : 0 ≤ pointAt r ns i ∧ pointAt r ns i < 1114112 ∧ (pointAt r ns i < 55296 ∨ 57344 ≤ pointAt r ns i) := by
  obtain ⟨_, _, ⟨h0, h1, h2⟩, _⟩ := (row_enc hr h).u8
  exact ⟨h0, h1, by omega⟩
theorem cell_no {o : Obj} {v : Option Value} {xs : Array Value} (h : o.data = .cell v) (h' : o.data = .fields xs) : False := by rw [h] at h'; cases h'
theorem add_snoc {prog : Program} {A : Around} {E : Value → Shared → Prop} {s : Shared} {acc : List Nat} {n : Nat} {t u : Tok} {Q : Value → Shared → Prop} (h : ∀ t' tk, Q (.str (strOf (acc ++ [n])) t') { s with toks := tk }) (hsz : acc.length ≤ 1000) :
    wpAny (model prog w) A (binaryOp .Add (.str (strOf acc) t) (.str ⟨#[n]⟩ u)) Q E s := by
  refine PyProof.Rows.add_str (fun t' tk => ?_) (by rw [strOf_length, PySem.sizeLine_eq]; show _ + 1 ≤ _; omega)
  rw [← strOf_snoc]
  exact h t' tk
local macro_rules
  | `(tactic| walk_at "call ref") => `(tactic| (k_here; (with_reducible show wpAny _ _ (call (Value.ref 120) _) _ _ _); k_dflt (
  refine' gives_use (gives_fits _ _ _ _ _ _ _ ?p1 ?p2 ?p3 ?p4 ?p5 ?p6) ?k1 ?k2 ?k3 ?k4 ?k5 ?k6 ?k7 ?k8 ?_; (case k1 => k_asm); (case k2 => k_asm); (case k3 => k_asm); (case k4 => k_asm); (case k5 => k_asm); (case k6 => exact rfl);
  (case p1 => first | assumption | exact LetsAt.keeps (by assumption) (Fr.keep (by assumption))); (case p2 => first | assumption | exact IntsIn.keeps (by assumption) (Fr.keep (by assumption))); (case p3 => omega); (case p4 => omega); (case p5 => omega); (case p6 => omega);
  (case k7 => ktr_room); (case k8 => ktr_units); k_whole; intro r' h' tk' F' N' K' hP'; subst hP'; (try dsimp only))))
  | `(tactic| walk_at "binaryOp Add str str") => `(tactic| (k_here; (refine' add_snoc ?_ ?k2; (case k2 => omega); k_whole); intro t' tk'; (try dsimp only)))
  | `(tactic| walk_at "KswEnd") => `(tactic| (refine Hold.out ?_))
  | `(tactic| walk_at "exec While") => `(tactic| (k_here; refine Hold.out ?_))
set_option maxHeartbeats 4000000 in
theorem gives_read (l o : Addr) (ns : List Int) (s : Shared) (hl : RowsAt s.heap l ROWS) (ho : IntsIn s.heap o ns) (hb : ∀ n ∈ ns, 0 ≤ n ∧ n < 256) (hn : ns.length ≤ 100) :
    Gives w mean mg mb 125 [.ref l, .ref o] s 4 32 (fun r h => ∃ t a b, r = .ref t ∧ IsTup h t [.str (strOf (readGo ns ns.length 0 []).1) a, .int (readGo ns ns.length 0 []).2 b].toArray) := by
  intro dp un gd cn cs a ccd cl outer A₀ base h₀ L m Q E B F X T hk hd hu hret
  have ho0 := ho
  obtain ⟨us, hl, hp⟩ := hl
  obtain ⟨vs, ho, hv⟩ := ho
  k_dflt (refine' enter_ofC (binds := [(Str.ofString "rows", .ref l), (Str.ofString "octets", .ref o)]) ?kB ?kF ?kX ?kT ?kk ?k1 ?k2 ?k3 ?k4 ?k5 ?k6 ?_ ?c1 ?c2 ?c3)
  (case kB => assumption); (case kF => assumption); (case kX => assumption); (case kT => assumption); (case kk => assumption)
  (case k1 => k_is); (case k2 => k_is); (case k3 => omega); (case k4 => exact BindsTo.of_eq rfl); (case k5 => exact rfl); (case k6 => decide +kernel)
  (case c1 => exact rfl); (case c2 => exact rfl); (case c3 => exact rfl)
  intro h₁ tk₁ cells₁ F₁ N₁ Y₁ B₁ X₁ T₁; k_cells Y₁; (try dsimp only)
  clear B F X T
  show wpAny _ _ _ _ _ _
  k_fold
  k_steps
  refine Hold.mk ?_
  (rename Fr _ _ _ _ => F9); (rename News _ _ _ _ => N9); (rename (_ : Obj).data = Data.cell (some (Value.int 0 _)) => d9)
  (rename (_ : Obj).data = Data.cell (bindC _ _ _ (Str.ofString "octets")) => d2)
  rename_i o2 _ _ _ _
  have d3 : o2.data = .cell (some (.ref o)) := d2
  refine' ksw_while (σ := List Nat × Nat × Nat × Tok × Tok × Obj) (fun c => [(s.heap.objs.size + 1 + 1, c.2.2.2.2.2), (s.heap.objs.size + 1, o2)]) (fun c => [(Str.ofString "text", .str (strOf c.1) c.2.2.2.1)]) (fun _ => True)
    [Str.ofString "fits", Str.ofString "least", Str.ofString "lets", Str.ofString "count", Str.ofString "k", Str.ofString "low", Str.ofString "behind"]
    (fun c => c.2.2.2.2.2.data = .cell (some (.int (c.2.1 : Nat) c.2.2.2.2.1)) ∧ c.2.1 ≤ ns.length ∧ c.1.length ≤ c.2.1 ∧ ns.length ≤ c.2.1 + c.2.2.1 ∧ readGo ns c.2.2.1 c.2.1 c.1 = readGo ns ns.length 0 [])
    (fun c => ns.length - c.2.1) ([], 0, ns.length, _, _, _) F9 N9 trivial (by kst_all) ⟨d9, by simp, by simp, by simp, rfl⟩ ?_
  rintro ⟨acc, i, f, tt, ta, oa⟩ u h2 tk2 - ⟨hd1, hi, hacc, hf, hgo⟩ F2 N2
  dsimp only at hd1 hi hacc hf hgo F2 N2
  show wpAny _ _ _ _ _ _
  k_fold
  k_steps
  · refine Hold.mk ?_
    (rename Fr _ _ _ _ => F8); (rename News _ _ _ _ => N8)
    refine assign_filt (R := fun v r => RowAt s.heap v r ∧ r ∈ ROWS) (p := fun r => lawFits r.2 ns i) rfl F8 N8 rfl hl (by rw [hp.length]; decide) hp.withMem (by with_unfolding_all rfl) (by with_unfolding_all rfl) (by decide) rfl (by decide) rfl (by with_unfolding_all rfl) (by with_unfolding_all rfl) (by decide) ?src ?test ?fin
    case src => intro Q' hq; k_steps; exact hq _
    case test =>
      intro g0 v r I oI C oC D ys m₂ h tk E' hv hC hm F2 N2 off
      obtain ⟨⟨tt, ta, tl, rfl, ht, hlets⟩, hmem⟩ := hv
      have hsm := rows_small _ hmem
      k_steps
      (rename Kp _ _ => K8)
      exact K8 _ _ (by assumption)
    case fin =>
      intro D zs h tk hz F2 N2 off
      have hfm : ∀ r ∈ ROWS.filter (fun r => lawFits r.2 ns i), r ∈ ROWS ∧ lawFits r.2 ns i = true := fun r hr => List.mem_filter.mp hr
      obtain ⟨f', rfl⟩ : ∃ f', f = f' + 1 := ⟨f - 1, by omega⟩
      rw [readGo, if_pos (by omega)] at hgo
      have hfl9 : (ROWS.filter (fun r => lawFits r.2 ns i)).length ≤ 9 := Nat.le_trans (List.length_filter_le _ _) (by decide)
      cases hfl : ROWS.filter (fun r => lawFits r.2 ns i) with
      | nil =>
        rw [hfl] at hz hgo
        cases hz
        k_steps
        (rename Fr _ _ _ _ => F8); (rename News _ _ _ _ => N8)
        (try dsimp only)
        exact hret _ _ _ F8.keep ⟨_, _, _, rfl, by rw [← hgo]; exact tupOf N8 (.head _)⟩
      | cons r rs =>
        rw [hfl] at hz hgo hfm hfl9
        obtain ⟨hr1, hr2⟩ := hfm r List.mem_cons_self
        cases hz with
        | @cons v _ zs' _ hv hz' =>
        obtain ⟨⟨tt, tra, tl, rfl, ht, us2, hl2, hp2⟩, -⟩ := hv
        have hzl : zs'.length ≤ 9 := by rw [hz'.length]; simp at hfl9; omega
        have hzz : (Value.ref tt :: zs').length = zs'.length + 1 := rfl
        have hv0 : (Value.ref tt :: zs')[Int.toNat 0]? = some (Value.ref tt) := rfl
        have hsm := rows_small _ hr1
        obtain ⟨least, lets⟩ := r
        have hfs := fits_spec hr2
        have hpr := point_range hr1 hr2
        dsimp only at ht hp2 hsm hr2 hgo hfs
        have hle := hfs.1
        k_steps
        · exfalso; omega
        refine Hold.mk ?_
        (rename Fr _ _ _ _ => F7); (rename News _ _ _ _ => N7); (rename IsRange _ _ _ _ _ _ _ _ => R7)
        refine' range_st (σ := Int × Tok) (n := lets.length) (fun _ => [(s.heap.objs.size + 1 + 1, oa), (s.heap.objs.size + 1, o2)]) (fun c => [(Str.ofString "count", .int c.1 c.2)])
          (fun k c => c.1 = countTo lets ns i k) [Str.ofString "low", Str.ofString "behind"]
          (0, _) rfl R7 (small_one (by omega) (by omega) (by omega) (by omega)) (by rw [rangeSize_nat]; omega) F7 (fun q hq => N7 q (by simp at hq; rcases hq with rfl | rfl <;> simp)) rfl (by kst_all) ?_ ?_
        · rintro ⟨count, tc⟩ k tk2 u3 h3 tk3 it hk3 hct hit F3 N3
          obtain ⟨v, hv2, t2, ta2, tb2, rfl, htup⟩ := hp2.get (i := k) (a := lets[k]) (by simp [hk3])
          have hv3 : us2[((0 : Int) + (k : Int) * 1).toNat]? = some (Value.ref t2) := by rw [show ((0 : Int) + (k : Int) * 1).toNat = k by omega]; exact hv2
          have hpos := hsm.2.2.1 lets[k] (List.getElem_mem hk3)
          generalize hlb : lets[k] = lb at *
          obtain ⟨lo, be⟩ := lb
          dsimp only at htup hpos hct F3 N3
          show wpAny _ _ _ _ _ _
          k_fold
          k_steps
          (rename Fr _ _ _ _ => F6); (rename News _ _ _ _ => N6)
          dsimp only [FreePost]
          refine st_end (_, _) F6 N6 (fun q hq => by simp at hq; rcases hq with rfl | rfl <;> simp) (by simp) (fun q hq xs h => by simp at hq; rcases hq with rfl | rfl; exact cell_no hd1 h; exact cell_no d3 h) ?_ (by kst_all) ?_
          · have e1 : ((i : Int) + (0 + (k : Int) * 1)).toNat = i + k := by omega
            show _ = countTo lets ns i (k + 1)
            rw [countTo, FinIter.getD_get _ _ _ hk3, hlb, ← hct, ← e1]
          · intro z q1 q2 q3
            simp only [List.contains_cons, List.contains_nil, Bool.or_false, Bool.or_eq_false_iff, beq_eq_false_iff_ne, ne_eq] at q3
            have q4 := q2 _ (.head _)
            dsimp only at q4
            simp [kstB, q1, q3, q4]
        · rintro ⟨count, tc⟩ u3 h3 tk3 hct F3 N3
          dsimp only at hct F3 N3
          have hpe : least + count = pointAt (least, lets) ns i := by rw [hct]; rfl
          rw [← hpe] at hpr
          k_steps
          (rename Fr _ _ _ _ => F6); (rename News _ _ _ _ => N6); (rename (_ : Obj).data = Data.cell (some (Value.int ((i : Int) + (lets.length : Int)) _)) => d6)
          refine Hold.mk ?_
          refine ksw_end (acc ++ [(least + count).toNat], i + lets.length, f', _, _, _) F6 N6 (by kst_in) trivial (by kst_all) ?_ ⟨by rw [Int.natCast_add]; exact d6, by show i + lets.length ≤ ns.length; omega, by show (acc ++ [(least + count).toNat]).length ≤ i + lets.length; rw [List.length_append, List.length_singleton]; omega, by show ns.length ≤ i + lets.length + f'; omega, ?_⟩ (by show ns.length - (i + lets.length) < ns.length - i; omega)
          · intro z q2 q3
            simp only [List.contains_cons, List.contains_nil, Bool.or_false, Bool.or_eq_false_iff, beq_eq_false_iff_ne, ne_eq] at q3
            have q4 := q2 _ (.head _)
            dsimp only at q4
            simp [kstB, q3, q4]
          · rw [← hgo, hpe]; rfl
  · (rename Fr _ _ _ _ => F8); (rename News _ _ _ _ => N8)
    (try dsimp only)
    have hge : ¬ i < ns.length := by omega
    have e : readGo ns f i acc = (acc, i) := by cases f with
      | zero => rfl
      | succ f => rw [readGo, if_neg hge]
    exact hret _ _ _ F8.keep ⟨_, _, _, rfl, by rw [← hgo, e]; exact tupOf N8 (.head _)⟩
theorem or_nat (a b : Nat) : Builtin.bitOr (a : Int) (b : Int) = ((a ||| b : Nat) : Int) := by
  have nn : ∀ x : Int, Builtin.bitNot (Builtin.bitNot x) = x := by intro x; unfold Builtin.bitNot; omega
  have ng : ∀ x : Nat, decide (0 ≤ Builtin.bitNot (x : Int)) = false := by intro x; unfold Builtin.bitNot; exact decide_eq_false (by omega)
  unfold Builtin.bitOr Builtin.bitAnd
  rw [ng, ng]
  simp only [nn]
  rfl
theorem or_add {i a b : Nat} (h : b < 2 ^ i) : Builtin.bitOr ((2 ^ i * a : Nat) : Int) ((b : Nat) : Int) = ((2 ^ i * a + b : Nat) : Int) := by
  rw [or_nat, Nat.two_pow_add_eq_or_of_lt h]
theorem and_mod (b : Nat) : Builtin.bitAnd ((b : Nat) : Int) 63 = ((b % 64 : Nat) : Int) := by
  show ((b &&& 63 : Nat) : Int) = _
  rw [show (63 : Nat) = 2 ^ 6 - 1 from rfl, Nat.and_two_pow_sub_one_eq_mod]
theorem shr (c k : Nat) : (c : Int).fdiv (2 ^ Int.toNat (k : Int)) = ((c / 2 ^ k : Nat) : Int) := by
  rw [Int.toNat_natCast, Int.fdiv_eq_ediv_of_nonneg _ (by exact Int.le_of_lt (Int.pow_pos (by decide)))]
  norm_cast
theorem shr6 (c : Nat) : (c : Int).fdiv (2 ^ Int.toNat 6) = ((c / 64 : Nat) : Int) := shr c 6
theorem shr12 (c : Nat) : (c : Int).fdiv (2 ^ Int.toNat 12) = ((c / 4096 : Nat) : Int) := shr c 12
theorem shr18 (c : Nat) : (c : Int).fdiv (2 ^ Int.toNat 18) = ((c / 262144 : Nat) : Int) := shr c 18
theorem b2 {c : Nat} (h : c < 2048) : Builtin.bitOr 192 ((c : Int).fdiv (2 ^ Int.toNat 6)) = ((192 + c / 64 : Nat) : Int) := by
  rw [shr6]; exact or_add (i := 6) (a := 3) (by omega)
theorem b3 {c : Nat} (h : c < 65536) : Builtin.bitOr 224 ((c : Int).fdiv (2 ^ Int.toNat 12)) = ((224 + c / 4096 : Nat) : Int) := by
  rw [shr12]; exact or_add (i := 5) (a := 7) (by omega)
theorem b4 {c : Nat} (h : c < 1114112) : Builtin.bitOr 240 ((c : Int).fdiv (2 ^ Int.toNat 18)) = ((240 + c / 262144 : Nat) : Int) := by
  rw [shr18]; exact or_add (i := 4) (a := 15) (by omega)
theorem l0 (c : Nat) : Builtin.bitOr 128 (Builtin.bitAnd (c : Int) 63) = ((128 + c % 64 : Nat) : Int) := by
  rw [and_mod]; exact or_add (i := 6) (a := 2) (by omega)
theorem l1 (c : Nat) : Builtin.bitOr 128 (Builtin.bitAnd ((c : Int).fdiv (2 ^ Int.toNat 6)) 63) = ((128 + c / 64 % 64 : Nat) : Int) := by
  rw [shr6]; exact l0 _
theorem l2 (c : Nat) : Builtin.bitOr 128 (Builtin.bitAnd ((c : Int).fdiv (2 ^ Int.toNat 12)) 63) = ((128 + c / 4096 % 64 : Nat) : Int) := by
  rw [shr12]; exact l0 _
noncomputable def encs (l : List Nat) : Array UInt8 := (l.map fun c => byteArr (u8 c)).foldl (· ++ ·) #[]
theorem foldl_size (l : List Nat) (b : Array UInt8) : ((l.map fun c => byteArr (u8 c)).foldl (· ++ ·) b).size ≤ b.size + 4 * l.length := by
  induction l generalizing b with
  | nil => simp
  | cons c l ih =>
    have := ih (b ++ byteArr (u8 c))
    have h2 := (u8_len c).2
    rw [Array.size_append, byteArr_size] at this
    simp only [List.map_cons, List.foldl_cons, List.length_cons]
    omega
theorem encs_size (l : List Nat) : (encs l).size ≤ 4 * l.length := by have := foldl_size l #[]; unfold encs; simpa using this
section
variable {prog : Program} {A : Around} {E : Value → Shared → Prop} {s : Shared} {h₀ : Heap} {L : Addr} {m : Str → Option Value}
theorem call_type0R {pos : Pos} {T : String} {Q : Value → Shared → Prop} (h : wpR (model prog w) A (call (.type T) []) Q E s) :
    wpR (model prog w) A (callWith pos (.type T) [] (backTo pos (starEach [] env)) (backToKw pos (keywordEach [] env))) Q E s :=
  wpR_callWith rfl (evalArgs_nil3 (wpAny_pure ⟨.inl rfl, h⟩))
theorem made_R {Q : Value → Shared → Prop} (F : Fr h₀ L s.heap m) (h : ∀ D h', Fr h₀ L h' m → News h₀ L h' [(D, ba #[])] → Q (.ref D) { s with heap := h' }) :
    wpR (model prog w) A (call (.type "bytearray") []) Q E s := by
  refine ba_make fun h' g k => h _ h' (F.keeps k) fun p hp => ?_
  rw [List.mem_singleton.mp hp]
  exact ⟨g, fun e => absurd F.ns.lt (e ▸ Nat.lt_irrefl _), next_is_new F⟩
theorem call_type1R {env : Env} {pos : Pos} {T : String} {e : Expr} {Q : Value → Shared → Prop} (h : wpAny (model prog w) A (eval e env) (fun v s₂ => wpR (model prog w) A (call (.type T) [v]) Q E s₂) E s)
    (he : starEach [e] env = [(false, eval e env)] := by rfl) :
    wpR (model prog w) A (callWith pos (.type T) [] (backTo pos (starEach [e] env)) (backToKw pos (keywordEach [] env))) Q E s := by
  rw [he]
  exact wpR_callWith rfl (evalArgs_plain (spliced_cons (wpAny_mono h (fun v s₂ h₂ => spliced_nil (wpAny_pure ⟨.inl rfl, h₂⟩)) fun _ _ z => z)))
theorem plain_ba : PlainAttrs "bytearray" :=
  ⟨⟨"bytearray.__getattribute__", by rw [typeLookup_type, builtinLookup_eq_fast]; kernel_rfl, by decide +kernel⟩, by rw [typeLookup_type, builtinLookup_eq_fast]; kernel_rfl⟩
theorem meth_R {env : Env} {x name : Str} {px apos pos : Pos} {e : Expr} {id : String} {Q : Value → Shared → Prop} (slot : Slot "bytearray" name id) (hty : typeOf (.builtin id) = pure (.type "method_descriptor")) (hline : (apos.endLine == pos.line) = true)
    (h : wpAny (model prog w) A (eval (.Name x px) env) (fun ov s₁ => ∃ D acc, ov = .ref D ∧ s₁.heap.get? D = some (ba acc) ∧ wpAny (model prog w) A (eval e env) (fun v s₂ => wpR (model prog w) A (call (.builtin id) [.ref D, v]) Q E s₂) E s₁) E s)
    (he : starEach [e] env = [(false, eval e env)] := by rfl) :
    wpR (model prog w) A (eval (.Call (.Attribute (.Name x px) name apos) [e] [] pos) env) Q E s := by
  have hbase : attributeBase (.Name x px) name env (eval (.Name x px) env) = eval (.Name x px) env := rfl
  rw [arm_eval_Call, hbase]
  refine wpR_step (wpAny_mono h (fun ov s₁ h₁ => ?_) fun _ _ z => z)
  obtain ⟨D, acc, rfl, hD, h₁⟩ := h₁
  refine wpR_step (wpAny_standAt ?_)
  have hpos : methodCallPos true (.Name x px) env apos pos = pure pos := by unfold methodCallPos; simp [hline]
  rw [he]
  have hform : methodCallForm ([e].length + ([] : List Keyword).length) (backTo pos [(false, eval e env)]) (backToKw pos (keywordEach [] env)) = true := rfl
  unfold methodCall
  rw [hform]
  refine wpR_step (wpAny_holding (getMethod_builtin (ba_typeIs hD) plain_ba slot hty (fun a e => by cases e; exact ⟨_, hD, rfl⟩) ?_))
  refine wpR_step (wpAny_of_eq hpos ?_)
  refine wpR_callWith rfl (evalArgs_plain (spliced_cons (wpAny_mono h₁ (fun v s₂ h₂ => ?_) fun _ _ z => z)))
  exact spliced_nil (wpAny_pure ⟨.inl rfl, h₂⟩)
theorem leaf_done {h h' : Heap} {news own : List (Addr × Obj)} {D : Addr} {acc acc' : Array UInt8} (F : Fr h₀ L h m) (N : News h₀ L h news) (hD : (D, ba acc) ∈ news) (sub : ∀ p ∈ own, p ∈ news) (ho : ∀ p ∈ own, p.1 ≠ D)
    (k : ∀ c o, c ≠ D → h.get? c = some o → h'.get? c = some o) (g : h'.get? D = some (ba acc')) : Fr h₀ L h' m ∧ News h₀ L h' ((D, ba acc') :: own) := by
  obtain ⟨_, h2, h3⟩ := N _ hD
  refine ⟨⟨F.ns.at' fun o e => k _ o (Ne.symm h2) e, fun b o e => k b o (fun q => ?_) (F.keep b o e), F.above⟩, fun p hp => ?_⟩
  · subst q
    dsimp only at h3
    rw [h3] at e
    cases e
  · rcases List.mem_cons.mp hp with rfl | hp
    · exact ⟨g, h2, h3⟩
    · obtain ⟨q1, q2, q3⟩ := N _ (sub p hp)
      exact ⟨k _ _ (ho p hp) q1, q2, q3⟩
end
local macro_rules
  | `(tactic| walk_at "binaryOp RShift int int") => `(tactic| (k_here; (with_reducible refine rshift_int ?kb1 ?_); (case kb1 => decide)))
set_option maxHeartbeats 4000000 in
theorem gives_utf8 (x : List Nat) (t : Tok) (s : Shared) (hx : ∀ c ∈ x, c < 1114112 ∧ ¬ (55296 ≤ c ∧ c < 57344)) (hlen : x.length ≤ 1000) : GivesR w mean mg mb 72 [.str (strOf x) t] s 2 16 (fun r _ => ∃ t, r = .bytes (encs x) t) := by
  intro dp un gd cn cs a ccd cl outer A₀ base h₀ L m Q E B F X T hk hd hu hret
  k_dflt (refine' enterR_of ?kB ?kF ?kX ?kT ?kk ?k1 ?k2 ?k3 ?k4 ?k5 ?_ ?c1 ?c2 ?c3 ?c4)
  (case kB => assumption); (case kF => assumption); (case kX => assumption); (case kT => assumption); (case kk => assumption)
  (case k1 => k_is); (case k2 => k_is); (case k3 => omega); (case k4 => exact BindsTo.of_eq (binds := [(Str.ofString "text", .str (strOf x) t)]) rfl); (case k5 => exact locs rfl)
  (case c1 => exact rfl); (case c2 => exact rfl); (case c3 => exact rfl); (case c4 => decide)
  intro h₁ F₁ N₁ B₁ X₁ T₁; (try dsimp only)
  clear B F X T
  refine wpR_execs_cons (wpR_Assign_Name ?_)
  refine wpR_Call_Name ?_
  k_fold
  k_steps
  (rename Fr _ _ _ _ => F2); clear N₁
  refine call_type0R (made_R F2 fun D h2 F3 N3 => ?_)
  clear F2
  show wpAny _ _ _ _ _ _
  k_fold
  k_steps
  (rename Fr _ _ _ _ => F4); (rename News _ _ _ _ => N4)
  refine wpR_execs_cons ?_
  refine For_str_R (xt := strOf x) (found := Str.ofString "found") (enc := fun c => byteArr (u8 c)) rfl rfl rfl ?src F4 N4 rfl (by decide) ?turn ?done
  case src => 
    intro Q' hq
    k_steps
    exact hq _ _
  case turn =>
    intro pre c post t m₁ h tk own acc e ha hm ho F5 N5
    clear F4 N4
    have e' : x = pre ++ c :: post := e
    have hc0 := hx c (by rw [e']; simp)
    have hlen2 : pre.length + 1 ≤ x.length := by rw [e', List.length_append, List.length_cons]; omega
    have hsz : acc.size + 4 ≤ sizeLine := by
      have := encs_size pre
      rw [ha, PySem.sizeLine_eq]
      unfold encs at this
      omega
    have hin := u8_in (c := c) ⟨by omega, by omega, by omega⟩
    have hul := u8_len c
    clear e e' hx hlen
    obtain ⟨u₁, rfl⟩ : ∃ u : Str → Option Value, m₁ = fun y => if y = Str.ofString "found" then some (.ref D) else u y := ⟨m₁, by funext y; by_cases q : y = Str.ofString "found"; rw [if_pos q, q, hm]; rw [if_neg q]⟩
    clear hm
    have hno : ¬ (55296 ≤ (c : Int) ∧ (c : Int) < 57344) := by omega
    have hc1 : (c : Int) < 1114112 := by omega
    refine wpR_execs_cons (wpR_of ?_)
    k_steps
    (rename Fr _ _ _ _ => F6); (rename News _ _ _ _ => N6); clear F5 N5
    refine wpR_execs_cons (wpR_of ?_)
    k_steps
    all_goals (rename Fr _ _ _ _ => F6); (rename News _ _ _ _ => N6)
    all_goals refine wpR_execs_cons (wpR_If (wpR_of ?_))
    all_goals k_steps
    rotate_left
    · (rename Fr _ _ _ _ => F7); (rename News _ _ _ _ => N7)
      refine wpR_execs_cons (wpR_Expr (meth_R F.ba_slot_append F.ba_meth_append rfl ?_))
      k_steps
      · (rename News _ _ _ _ => N8); exact (N8 _ (by k_mem)).1
      (rename Fr _ _ _ _ => F9); (rename News _ _ _ _ => N9)
      refine ba_append (N9 _ (by k_mem)).1 (by omega) (by omega) (by omega) fun h' g k => ⟨rfl, ?_⟩
      obtain ⟨F10, N10⟩ := leaf_done (acc := acc) (D := D) F9 N9 (by k_mem) (fun p hp => List.mem_cons_of_mem _ hp) ho k.extBut g
      repeat refine wpR_execs_nil ?_
      refine ⟨rfl, _, _, _, rfl, by rfl, F10, ?_⟩
      have : byteArr (u8 c) = #[((c : Int)).toNat.toUInt8] := by unfold u8; rw [if_pos (by omega)]; rfl
      rw [this]
      exact N10
    all_goals refine wpR_execs_cons (wpR_If (wpR_of ?_))
    all_goals k_steps
    · (rename Fr _ _ _ _ => F7); (rename News _ _ _ _ => N7)
      refine wpR_execs_cons (wpR_Expr (meth_R F.ba_slot_extend F.ba_meth_extend rfl ?_))
      k_steps
      · (rename News _ _ _ _ => N8); exact (N8 _ (by k_mem)).1
      (rename Fr _ _ _ _ => F9); (rename News _ _ _ _ => N9)
      have eu : u8 c = [((192 + c / 64 : Nat) : Int), ((128 + c % 64 : Nat) : Int)] := by unfold u8; rw [if_neg (by omega), if_pos (by omega)]
      rw [b2 (by omega), l0] at N9
      refine ba_extend (b := acc) (ns := u8 c) rfl (N9 (D, ba acc) (by k_mem)).1 (lstOf N9 (by k_mem)) (by rw [eu]; exact .cons _ _ (.cons _ _ .nil)) hin (by omega) (by rw [eu]; simp) fun h' k' k g => ⟨rfl, ?_⟩
      obtain ⟨F10, N10⟩ := leaf_done (acc := acc) (D := D) F9 N9 (by k_mem) (fun p hp => List.mem_cons_of_mem _ (List.mem_cons_of_mem _ hp)) ho k g
      repeat refine wpR_execs_nil ?_
      exact ⟨rfl, _, _, _, rfl, by rfl, F10, N10⟩
    all_goals refine wpR_execs_cons (wpR_If (wpR_of ?_))
    all_goals k_steps
    rotate_right
    · (rename Fr _ _ _ _ => F7); (rename News _ _ _ _ => N7)
      refine wpR_execs_cons (wpR_Expr (meth_R F.ba_slot_extend F.ba_meth_extend rfl ?_))
      k_steps
      · (rename News _ _ _ _ => N8); exact (N8 _ (by k_mem)).1
      (rename Fr _ _ _ _ => F9); (rename News _ _ _ _ => N9)
      have eu : u8 c = [((240 + c / 262144 : Nat) : Int), ((128 + c / 4096 % 64 : Nat) : Int), ((128 + c / 64 % 64 : Nat) : Int), ((128 + c % 64 : Nat) : Int)] := by unfold u8; rw [if_neg (by omega), if_neg (by omega), if_neg (by omega)]
      rw [b4 (by omega), l0, l1, l2] at N9
      refine ba_extend (b := acc) (ns := u8 c) rfl (N9 (D, ba acc) (by k_mem)).1 (lstOf N9 (by k_mem)) (by rw [eu]; exact .cons _ _ (.cons _ _ (.cons _ _ (.cons _ _ .nil)))) hin (by omega) (by rw [eu]; simp) fun h' k' k g => ⟨rfl, ?_⟩
      obtain ⟨F10, N10⟩ := leaf_done (acc := acc) (D := D) F9 N9 (by k_mem) (fun p hp => List.mem_cons_of_mem _ (List.mem_cons_of_mem _ hp)) ho k g
      repeat refine wpR_execs_nil ?_
      exact ⟨rfl, _, _, _, rfl, by rfl, F10, N10⟩
    all_goals
      (rename Fr _ _ _ _ => F7); (rename News _ _ _ _ => N7)
      refine wpR_execs_cons (wpR_Expr (meth_R F.ba_slot_extend F.ba_meth_extend rfl ?_))
      k_steps
      · (rename News _ _ _ _ => N8); exact (N8 _ (by k_mem)).1
      (rename Fr _ _ _ _ => F9); (rename News _ _ _ _ => N9)
      have eu : u8 c = [((224 + c / 4096 : Nat) : Int), ((128 + c / 64 % 64 : Nat) : Int), ((128 + c % 64 : Nat) : Int)] := by unfold u8; rw [if_neg (by omega), if_neg (by omega), if_pos (by omega)]
      rw [b3 (by omega), l0, l1] at N9
      refine ba_extend (b := acc) (ns := u8 c) rfl (N9 (D, ba acc) (by k_mem)).1 (lstOf N9 (by k_mem)) (by rw [eu]; exact .cons _ _ (.cons _ _ (.cons _ _ .nil))) hin (by omega) (by rw [eu]; simp) fun h' k' k g => ⟨rfl, ?_⟩
      obtain ⟨F10, N10⟩ := leaf_done (acc := acc) (D := D) F9 N9 (by k_mem) (fun p hp => List.mem_cons_of_mem _ (List.mem_cons_of_mem _ hp)) ho k g
      repeat refine wpR_execs_nil ?_
      exact ⟨rfl, _, _, _, rfl, by rfl, F10, N10⟩
  case done =>
    intro h tk m' hm F5 N5
    obtain ⟨u₁, rfl⟩ : ∃ u : Str → Option Value, m' = fun y => if y = Str.ofString "found" then some (.ref D) else u y := ⟨m', by funext y; by_cases q : y = Str.ofString "found"; rw [if_pos q, q, hm]; rw [if_neg q]⟩
    clear F4 N4
    refine wpR_execs_cons (wpR_Return (wpR_Call_Name ?_))
    k_steps
    refine call_type1R ?_
    k_steps
    (rename Fr _ _ _ _ => F7); (rename News _ _ _ _ => N7)
    refine wpR_of (ba_bytes (N7 _ (by k_mem)).1 (by have := encs_size x; rw [PySem.sizeLine_eq]; show (encs x).size ≤ _; omega) fun t => ?_)
    exact hret _ _ _ F7.keep ⟨t, rfl⟩
theorem fr_but {h₀ h h' : Heap} {L e : Addr} {m : Str → Option Value} (F : Fr h₀ L h m) (he : h₀.get? e = none) (heL : e ≠ L) (k : ∀ b o, b ≠ e → h.get? b = some o → h'.get? b = some o) : Fr h₀ L h' m :=
  ⟨F.ns.at' fun o x => k L o (Ne.symm heL) x, fun b o x => k b o (fun q => by rw [q, he] at x; cases x) (F.keep b o x), F.above⟩
set_option maxHeartbeats 4000000 in
theorem gives_init28 (e : Addr) (why : Str) (t : Tok) (s : Shared) (vs : Array Value) (old : Value) (he : s.heap.get? e = some { cls := .ref 51, data := .fields vs }) (h0 : vs[0]? = some old) :
    GivesM w mean mg mb e 28 [.ref e, .str why t] s 2 16 (fun r h => r = .none ∧ ∃ d t', h.get? e = some { cls := .ref 51, dict := some d, data := .fields (vs.setIfInBounds 0 (.ref t')) } ∧ d ≠ e ∧ s.heap.get? d = none ∧ h.Ns1 d (fun y => if y = Str.ofString "why" then some (.str why t) else none)) := by
  intro dp un gd cn cs a ccd cl outer A₀ base h₀ L m Q E hen heL B F X T hk hd hu hret
  k_dflt (refine' enter_hide e hen heL ?kB ?kF ?kX ?kT ?kk ?k1 ?k2 ?k3 ?k4 ?k5 ?_ ?c1 ?c2 ?c3 ?c4)
  (case kB => assumption); (case kF => assumption); (case kX => assumption); (case kT => assumption); (case kk => assumption)
  (case k1 => k_is); (case k2 => k_is); (case k3 => omega); (case k4 => exact BindsTo.of_eq (binds := [(Str.ofString "self", .ref e), (Str.ofString "why", .str why t)]) rfl); (case k5 => exact locs rfl)
  (case c1 => exact rfl); (case c2 => exact rfl); (case c3 => exact rfl); (case c4 => decide)
  intro h₁ h₂ F₁ K₁ hn₂ k₂ B₁ X₁ T₁; (try dsimp only)
  clear B F X T
  have N₁ : News h₂ s.heap.objs.size h₁ [(e, { cls := .ref 51, data := .fields vs })] := fun p hp => by
    rw [List.mem_singleton.mp hp]
    exact ⟨K₁ _ _ he, Nat.ne_of_lt (Heap.lt_size he), hn₂⟩
  show wpAny _ _ _ _ _ _
  k_fold
  k_steps
  refine method_type F₁ X₁ (v := .builtin "Exception.__init__") (by kernel_rfl) (by decide +kernel) (by k_is) rfl ?_
  k_steps
  (rename Fr _ _ _ _ => F2); (rename News _ _ _ _ => N2)
  refine base_init ((X₁.keeps F2.keep) 51 _ rfl) (by decide) (N2 _ (.head _)).1 rfl rfl h0 (by simp) fun h3 t' g3 k3 => ?_
  have hel : e ≠ s.heap.objs.size := Nat.ne_of_lt (Heap.lt_size he)
  have F3 := fr_but F2 hn₂ hel k3
  have N3 : News h₂ s.heap.objs.size h3 [(e, { cls := .ref 51, data := .fields (vs.setIfInBounds 0 (.ref t')) })] := fun p hp => by
    rw [List.mem_singleton.mp hp]; exact ⟨g3, hel, hn₂⟩
  clear F2 N2
  k_steps
  refine set_exc (X₁.keeps F3.keep) (C := 51) (od := none) ⟨g3, rfl, rfl, trivial⟩ rfl rfl rfl rfl rfl (.inl ⟨rfl, rfl⟩) PySem.Within.nil (by simp) fun h4 tk4 d' g4 hde hns hnew _ k4 => ?_
  refine wpAny_execs_nil ?_
  (try dsimp only)
  have hsd : s.heap.get? d' = none := by
    cases q : s.heap.get? d' with
    | none => rfl
    | some od =>
      have := k3 d' od hde (K₁ _ _ q)
      rw [hnew rfl] at this
      cases this
  refine hret _ _ _ (fun b o hb x => k4 b o hb (fun q => ?_) (k3 b o hb (K₁ _ _ x))) ⟨rfl, d', t', g4, hde, hsd, hns⟩
  subst q
  rw [hsd] at x
  cases x
set_option maxHeartbeats 4000000 in
theorem gives_init48 (e : Addr) (why : Str) (t : Tok) (i : Int) (t2 : Tok) (s : Shared) (vs : Array Value) (old : Value) (he : s.heap.get? e = some { cls := .ref 51, data := .fields vs }) (h0 : vs[0]? = some old) :
    GivesM w mean mg mb e 48 [.ref e, .str why t, .int i t2] s 4 32 (fun r h => r = .none ∧ ∃ d t', h.get? e = some { cls := .ref 51, dict := some d, data := .fields (vs.setIfInBounds 0 (.ref t')) } ∧ d ≠ e ∧ s.heap.get? d = none ∧
      h.Ns1 d (fun y => if y = Str.ofString "at" then some (.int i t2) else if y = Str.ofString "why" then some (.str why t) else none)) := by
  intro dp un gd cn cs a ccd cl outer A₀ base h₀ L m Q E hen heL B F X T hk hd hu hret
  k_dflt (refine' enter_hide e hen heL ?kB ?kF ?kX ?kT ?kk ?k1 ?k2 ?k3 ?k4 ?k5 ?_ ?c1 ?c2 ?c3 ?c4)
  (case kB => assumption); (case kF => assumption); (case kX => assumption); (case kT => assumption); (case kk => assumption)
  (case k1 => k_is); (case k2 => k_is); (case k3 => omega); (case k4 => exact BindsTo.of_eq (binds := [(Str.ofString "self", .ref e), (Str.ofString "why", .str why t), (Str.ofString "at", .int i t2)]) rfl); (case k5 => exact locs rfl)
  (case c1 => exact rfl); (case c2 => exact rfl); (case c3 => exact rfl); (case c4 => decide)
  intro h₁ h₂ F₁ K₁ hn₂ k₂ B₁ X₁ T₁; (try dsimp only)
  clear B F X T
  have hel : e ≠ s.heap.objs.size := Nat.ne_of_lt (Heap.lt_size he)
  have N₁ : News h₂ s.heap.objs.size h₁ [(e, { cls := .ref 51, data := .fields vs })] := fun p hp => by
    rw [List.mem_singleton.mp hp]
    exact ⟨K₁ _ _ he, hel, hn₂⟩
  show wpAny _ _ _ _ _ _
  k_fold
  k_steps
  (rename Fr _ _ _ _ => F2); (rename News _ _ _ _ => N2)
  refine gives_init28 e why t _ vs old (N2 _ (.head _)).1 h0 _ _ _ _ _ _ _ _ _ _ _ _ _ _ _ _ hn₂ hel B₁ F2 X₁ T₁ rfl (by ktr_room) (by ktr_units) (fun r h3 tk3 k3 hp => ?_)
  obtain ⟨rfl, d, t', g3, hde, hd3, hns⟩ := hp
  have F3 := fr_but F2 hn₂ hel k3
  have N3 : News h₂ s.heap.objs.size h3 [(e, { cls := .ref 51, dict := some d, data := .fields (vs.setIfInBounds 0 (.ref t')) })] := fun p hp => by
    rw [List.mem_singleton.mp hp]; exact ⟨g3, hel, hn₂⟩
  clear F2 N2
  k_steps
  obtain ⟨od, _, _, hod, _⟩ := id hns
  refine set_exc (X₁.keeps F3.keep) (C := 51) (od := some od) ⟨g3, rfl, rfl, hod⟩ rfl rfl rfl rfl rfl (.inr ⟨d, rfl, hde, hns⟩) (PySem.Within.cons _ _ PySem.Within.nil) (by simp) fun h4 tk4 d' g4 hde' hns' _ hdd k4 => ?_
  obtain rfl := hdd d rfl
  refine wpAny_execs_nil ?_
  (try dsimp only)
  have hsd : s.heap.get? d' = none := by
    cases q : s.heap.get? d' with
    | none => rfl
    | some od =>
      have := K₁ d' od q
      dsimp only at hd3
      rw [hd3] at this
      cases this
  refine hret _ _ _ (fun b o hb x => k4 b o hb (fun q => ?_) (k3 b o hb (K₁ _ _ x))) ⟨rfl, d', t', g4, hde, hsd, hns'⟩
  subst q
  rw [hsd] at x
  cases x
noncomputable def MSG : Str := Str.ofString "malformed UTF-8 encoding"
/-- as Gives, or Malformed flies with fields of PX -/
noncomputable def GivesX (w : World) (mean : ExcName → Option Value) (mg mb : Str → Option Value) (f : Addr) (vs : List Value) (s : Shared) (D U : Nat) (P : Value → Heap → Prop) (PX : (Str → Option Value) → Prop) : Prop :=
  ∀ (dp un : Nat) (gd : Option (List Code)) (cn : Str) (cs : Scope) (a : Addr) (ccd : Value) (cl : List (Str × Addr)) (outer : List Env) (A₀ : Around) (base h₀ : Heap) (L : Addr) (m : Str → Option Value) (Q E : Value → Shared → Prop),
    Below A₀ base outer h₀ → Fr h₀ L s.heap m → (Mine.hd.heap_39 w.params).In h₀ → Top VW LO mean mg mb h₀ → cs.kind = .function → dp + D < recursionLimit → un + U < cLine →
    (∀ r h' tk, Kp s.heap h' → P r h' → Q r { s with heap := h', toks := tk }) →
    (∀ e d mA h' tk, Flw s.heap ((envX cn cs L a ccd cl :: outer).filterMap (·.frame)) e d mA h' → PX mA → E (.ref e) { s with heap := h', toks := tk }) →
    wpAny (model PR w) (ktrTop dp un gd cn cs L a ccd cl outer) (call (.ref f) vs) Q E s
noncomputable def fieldsAt (i : Int) (mA : Str → Option Value) : Prop := ∃ t1 t2, mA (Str.ofString "why") = some (.str MSG t1) ∧ mA (Str.ofString "at") = some (.int i t2)
theorem call_mal {dp un : Nat} {gd : Option (List Code)} {cn : Str} {cs : Scope} {a : Addr} {ccd : Value} {cl : List (Str × Addr)} {outer : List Env} {A₀ : Around} {base h₀ : Heap} {L : Addr} {m : Str → Option Value} {E : Value → Shared → Prop} {s : Shared} {t t2 : Tok} {i : Int}
    (B : Below A₀ base outer h₀) (F : Fr h₀ L s.heap m) (X : (Mine.hd.heap_39 w.params).In h₀) (T : Top VW LO mean mg mb h₀) (hk : cs.kind = .function) (hd : dp + 5 < recursionLimit) (hu : un + 33 < cLine)
    (h : ∀ e d mA t' h' tk, Kp s.heap h' → s.heap.get? e = none → s.heap.get? d = none → d ≠ e → h'.get? e = some { cls := .ref 51, dict := some d, data := .fields #[.ref t', .none, .none, .none, .bool false, .none] } → h'.Ns1 d mA → fieldsAt i mA → E (.ref e) { s with heap := h', toks := tk }) :
    wpAny (model PR w) (ktrTop dp un gd cn cs L a ccd cl outer) (call (.ref 51) [.str MSG t, .int i t2]) (RaisM w E) E s := by
  obtain ⟨hh, g, d, tk, os⟩ := s
  have Xh := X.keeps F.keep
  refine own_call PySem.F.excBase_Exception (by decide) (by decide) (by decide) (mal_at Xh) (fun h' k => looks_findIn (Xh.keeps k) rfl) (Xh 48 _ rfl) rfl (fun h' e hm => ?_) (by simp [sizeLine_eq])
  have heo : h₀.get? e = none := by
    cases q : h₀.get? e with
    | none => rfl
    | some o => have := F.keep _ _ q; rw [hm.new] at this; cases this
  have heL : e ≠ L := fun q => by obtain ⟨o, _, _, e1, _⟩ := F.ns; rw [← q] at e1; exact absurd (hm.new.symm.trans e1) (by simp)
  obtain ⟨t0, ht0, _, _⟩ := hm.there
  refine gives_init48 e MSG t i t2 ⟨h', g, d, tk, os⟩ _ _ ht0 rfl (dp + 1) (un + 1) gd cn cs a ccd cl outer A₀ base h₀ L m _ _ heo heL B (F.keeps hm.keeps) X T hk (by omega) (by omega) (fun r h2 tk2 k2 hp => ?_)
  obtain ⟨rfl, dx, t', g2, hde, hdn, hns⟩ := hp
  have hd0 : hh.get? dx = none := by
    cases q : hh.get? dx with
    | none => rfl
    | some o => have := hm.keeps _ _ q; dsimp only at hdn; rw [hdn] at this; cases this
  have kk : Kp hh h2 := fun b o x => k2 b o (fun q => by rw [q, hm.new] at x; cases x) (hm.keeps _ _ x)
  exact ⟨rfl, e, dx, t', rfl, Xh.keeps kk, g2, h e dx _ t' h2 tk2 kk hm.new hd0 hde g2 hns ⟨t, t2, by show (if _ then _ else _) = _; rw [if_neg (by decide), if_pos rfl], by show (if _ then _ else _) = _; rw [if_pos rfl]⟩⟩
local macro_rules
  | `(tactic| walk_at "exec Raise some none") => `(tactic| (k_here; refine Hold.out ?_))
noncomputable def headOf (n : Int) : Option (Int × Int × Int) :=
  if n < 128 then some (0, n, 0) else if 192 ≤ n ∧ n < 224 then some (1, n - 192, 128) else if 224 ≤ n ∧ n < 240 then some (2, n - 224, 2048) else if 240 ≤ n ∧ n < 248 then some (3, n - 240, 65536) else none
set_option maxHeartbeats 4000000 in
theorem gives_head (n : Int) (t : Tok) (i : Int) (t2 : Tok) (s : Shared) (hn0 : 0 ≤ n) (hn : n < 256) : GivesX w mean mg mb 79 [.int n t, .int i t2] s 8 64
    (fun r h => ∃ q tt a b c, headOf n = some q ∧ r = .ref tt ∧ IsTup h tt [.int q.1 a, .int q.2.1 b, .int q.2.2 c].toArray) (fun mA => headOf n = none ∧ fieldsAt i mA) := by
  intro dp un gd cn cs a ccd cl outer A₀ base h₀ L m Q E B F X T hk hd hu hret hexc
  k_dflt (refine' enter_of (binds := [(Str.ofString "octet", .int n t), (Str.ofString "at", .int i t2)]) ?kB ?kF ?kX ?kT ?kk ?k1 ?k2 ?k3 ?k4 ?k5 ?_ ?c1 ?c2 ?c3 ?c4)
  (case kB => assumption); (case kF => assumption); (case kX => assumption); (case kT => assumption); (case kk => assumption)
  (case k1 => k_is); (case k2 => k_is); (case k3 => omega); (case k4 => exact BindsTo.of_eq rfl); (case k5 => exact locs rfl)
  (case c1 => exact rfl); (case c2 => exact rfl); (case c3 => exact rfl); (case c4 => decide)
  intro h₁ F₁ N₁ B₁ X₁ T₁; (try dsimp only)
  clear B F X T
  k_fold
  k_steps
  · (rename News _ _ _ _ => N8)
    (try dsimp only)
    exact hret _ _ _ (Fr.keep (by assumption)) ⟨(0, n, 0), _, _, _, _, by unfold headOf; rw [if_pos (by omega)], rfl, tupOf N8 (.head _)⟩
  · (rename News _ _ _ _ => N8)
    (try dsimp only)
    rw [bitAnd_m5] at N8
    exact hret _ _ _ (Fr.keep (by assumption)) ⟨(1, n % 32, 128), _, _, _, _, by unfold headOf; rw [if_neg (by omega), if_pos (by omega), show n - 192 = n % 32 by omega], rfl, tupOf N8 (.head _)⟩
  · (rename News _ _ _ _ => N8)
    (try dsimp only)
    rw [bitAnd_m4] at N8
    exact hret _ _ _ (Fr.keep (by assumption)) ⟨(2, n % 16, 2048), _, _, _, _, by unfold headOf; rw [if_neg (by omega), if_neg (by omega), if_pos (by omega), show n - 224 = n % 16 by omega], rfl, tupOf N8 (.head _)⟩
  · (rename News _ _ _ _ => N8)
    (try dsimp only)
    rw [bitAnd_m3] at N8
    exact hret _ _ _ (Fr.keep (by assumption)) ⟨(3, n % 8, 65536), _, _, _, _, by unfold headOf; rw [if_neg (by omega), if_neg (by omega), if_neg (by omega), if_pos (by omega), show n - 240 = n % 8 by omega], rfl, tupOf N8 (.head _)⟩
  all_goals
    refine Hold.mk ?_
    refine Raise_row rfl ?_
    k_steps
    (rename Fr _ _ _ _ => F8); (rename Below _ _ _ _ => B₁); (rename Frag.In _ _ => X₁); (rename Top _ _ _ _ _ _ => T₁)
    k_dflt (refine' call_mal ?k1 ?k2 ?k3 ?k4 ?k5 ?k6 ?k7 ?_)
    (case k1 => exact B₁); (case k2 => exact F8); (case k3 => exact X₁); (case k4 => exact T₁); (case k5 => exact rfl); (case k6 => ktr_room); (case k7 => ktr_units)
    intro e d mA t' h' tk' k he0 hd0 hde hee hns hf
    have hL : s.heap.get? s.heap.objs.size = none := Heap.get?_none_of_le (Nat.le_refl _)
    have kk : Kp s.heap h' := fun b o x => k _ _ (F8.keep _ _ x)
    have hbL : base.get? s.heap.objs.size = none := by
      cases q : base.get? s.heap.objs.size with
      | none => rfl
      | some o => have := B₁.stays _ _ q; rw [hL] at this; cases this
    have gn : ∀ {b : Addr}, (_ : Heap).get? b = none → s.heap.get? b = none := fun {b} q => by
      cases z : s.heap.get? b with
      | none => rfl
      | some o => have := F8.keep _ _ z; rw [q] at this; cases this
    show wpAny _ _ (leaving _ _) _ _ _
    refine leave_first (L := s.heap.objs.size) (g := s.heap) rfl (base := base) ?_ rfl hL kk hee (gn he0) (gn hd0) hde hns fun h2 X2 => hexc e d mA h2 _ X2 ⟨?_, hf⟩
    · exact Heap.FunFrames.cons (fun q => nomatch q) rfl (F8.keeps k).ns hbL (B₁.frames.of_keeps fun b o x _ => ⟨o, kk b o x, rfl⟩)
    · unfold headOf
      rw [if_neg (by omega), if_neg (by omega), if_neg (by omega), if_neg (by omega)]
theorem mal_leaves {dp un : Nat} {gd : Option (List Code)} {cn nm : Str} {cs sc : Scope} {a fa : Addr} {ccd cdv : Value} {cl : List (Str × Addr)} {outer : List Env} {base g : Heap} {L : Addr} {m : Str → Option Value} {E₀ : Value → Shared → Prop} {s : Shared} {t t2 : Tok} {i : Int}
    (B : Below (ktrTop dp un gd cn cs L a ccd cl outer) base (envX cn cs L a ccd cl :: outer) g) (F : Fr g g.objs.size s.heap m) (X : (Mine.hd.heap_39 w.params).In g) (T : Top VW LO mean mg mb g) (hk : sc.kind = .function) (hd : dp + 6 < recursionLimit) (hu : un + 36 < cLine)
    (hx : ∀ e d mA h' tk, Flw g ((envX cn cs L a ccd cl :: outer).filterMap (·.frame)) e d mA h' → fieldsAt i mA → E₀ (.ref e) { s with heap := h', toks := tk }) :
    wpAny (model PR w) ((ktrTop dp un gd cn cs L a ccd cl outer).deeper (envOf nm sc g.objs.size fa cdv)) (call (.ref 51) [.str MSG t, .int i t2])
      (RaisM w (fun e s' => wpAny (model PR w) ((ktrTop dp un gd cn cs L a ccd cl outer).deeper (envOf nm sc g.objs.size fa cdv)) (leaving (envOf nm sc g.objs.size fa cdv) e) (fun _ s'' => E₀ e s'') (fun e' s'' => E₀ e' s'') s'))
      (fun e s' => wpAny (model PR w) ((ktrTop dp un gd cn cs L a ccd cl outer).deeper (envOf nm sc g.objs.size fa cdv)) (leaving (envOf nm sc g.objs.size fa cdv) e) (fun _ s'' => E₀ e s'') (fun e' s'' => E₀ e' s'') s') s := by
  refine call_mal (dp := dp + 1) (un := un + 3) (gd := gd) (cn := nm) (cs := sc) (a := fa) (ccd := cdv) (cl := []) (outer := envX cn cs L a ccd cl :: outer) (L := g.objs.size) B F X T hk (by omega) (by omega) fun e d mA t' h' tk' k he0 hd0 hde hee hns hf => ?_
  have hL : g.get? g.objs.size = none := Heap.get?_none_of_le (Nat.le_refl _)
  have kk : Kp g h' := fun b o x => k _ _ (F.keep _ _ x)
  have hbL : base.get? g.objs.size = none := by
    cases q : base.get? g.objs.size with
    | none => rfl
    | some o => have := B.stays _ _ q; rw [hL] at this; cases this
  have gn : ∀ {b : Addr}, s.heap.get? b = none → g.get? b = none := fun {b} q => by
    cases z : g.get? b with
    | none => rfl
    | some o => have := F.keep _ _ z; rw [q] at this; cases this
  refine leave_first (L := g.objs.size) (g := g) rfl (base := base) ?_ rfl hL kk hee (gn he0) (gn hd0) hde hns fun h2 X2 => hx e d mA h2 _ X2 hf
  exact Heap.FunFrames.cons (by show sc.kind ≠ _; rw [hk]; decide) rfl (F.keeps k).ns hbL (B.frames.of_keeps fun b o x _ => ⟨o, kk b o x, rfl⟩)
theorem bytes_at {prog : Program} {A : Around} {E : Value → Shared → Prop} {s : Shared} {value slice : Expr} {b : Array UInt8} {t u : Tok} {i : Int} {Q : Value → Shared → Prop} (hfit : b.size ≤ 100000) (h0 : 0 ≤ i) (h1 : i < b.size)
    (h : Q (.int ((KBw.bInts b).getD i.toNat 0) s.toks) { s with toks := s.toks + 1 })
    (hs : subscripted slice false (.bytes b t) (.int i u) = operate [.bytes b t, .int i u] (getItem (.bytes b t) (.int i u)) := by with_unfolding_all rfl) (ht : ∀ r, letTemporaryGo value (.bytes b t) r = pure () := by intro _; with_unfolding_all rfl) :
    wpAny (model prog w) A (subscriptTail value slice (.bytes b t) (.int i u)) Q E s := by
  refine subscriptTail_builtin (typeIs_bytes _ _ _) FB.slot_bytes_getitem.lookup ?_ hs ht
  have hl : i.toNat < b.toList.length := by simp; omega
  refine getItem_bytes (l := b.toList) (by simp; omega) h0 (by simpa using h1) ?_
  have e : (KBw.bInts b).getD i.toNat 0 = ((b.toList.getD i.toNat 0).toNat : Int) := by
    unfold KBw.bInts
    rw [List.getD_eq_getElem?_getD, List.getD_eq_getElem?_getD, List.getElem?_map, List.getElem?_eq_getElem hl]
    rfl
  rw [← e]
  exact h
theorem bInts_get {b : Array UInt8} {i : Nat} (h : i < b.size) : 0 ≤ (KBw.bInts b).getD i 0 ∧ (KBw.bInts b).getD i 0 < 256 := by
  rw [List.getD_eq_getElem?_getD, List.getElem?_eq_getElem (by rw [KBw.ints_length]; exact h)]
  exact KBw.ints_in (List.getElem_mem _)
inductive MarkMeet : Prop | mk
local macro_rules
  | `(tactic| walk_at "call ref") => `(tactic| (k_here; (with_reducible show wpAny _ _ (call (Value.ref 79) _) _ _ _); refine Hold.out ?_))
  | `(tactic| walk_at "exec While Compare") => `(tactic| (k_here; refine Hold.out ?_))
  | `(tactic| walk_at "subscriptTail") => `(tactic| (k_here; (with_reducible show wpAny _ _ (subscriptTail _ _ (Value.bytes _ _) (Value.int _ _)) _ _ _); (with_unfolding_all refine' bytes_at ?k1 ?k2 ?k3 ?_ ?k5 ?k6; (case k1 => omega); (case k2 => omega); (case k3 => omega); (case k5 => with_unfolding_all rfl); (case k6 => (intro _; with_unfolding_all rfl)); k_whole)))
  | `(tactic| walk_at "exec For Name Subscript cons nil") => `(tactic| (k_here; (rename Fr _ _ _ _ => lF'); (with_unfolding_all refine' For_invVF lF' ?k1 ?k2 ?_; (case k1 => exact rfl); (case k2 => exact rfl); k_whole)))
  | `(tactic| walk_at "isTrue BoolOp") => `(tactic| (k_here; (fail_if_success (rename MarkMeet => lM)); refine Hold.out ?_))
  | `(tactic| walk_at "binaryOp LShift int int") => `(tactic| (k_here; (with_reducible refine lshift_int_small ?kb1 ?kb2 ?kb3 ?_); (case kb1 => decide); (case kb2 => decide); (case kb3 => omega)))
structure MeetB (v : Bool) (s : Shared) (r : Bool) (s' : Shared) : Prop where
  same : r = v
  met : ∃ tk, s' = { s with toks := tk }
theorem meet_bool {M : Model} {A : Around} {E : Value → Shared → Prop} {s : Shared} {x : Sem Bool} {v : Bool} {Q : Bool → Shared → Prop} (h1 : wpAny M A x (MeetB v s) E s)
    (h2 : ∀ tk, Q v { s with toks := tk }) : wpAny M A x Q E s := wpAny_mono h1 (fun _ _ ⟨e1, _, e2⟩ => by subst e1 e2; exact h2 _) fun _ _ z => z
noncomputable def tailGo : List Int → Int → Option Int
  | [], p => some p
  | o :: r, p => if 128 ≤ o ∧ o < 192 then tailGo r (p * 64 + o % 64) else none
noncomputable def textGo (ns : List Int) : Nat → Nat → List Nat → List Nat × Option Nat
  | 0, _, acc => (acc, none)
  | f + 1, i, acc => if i < ns.length then
      match headOf (ns.getD i 0) with
      | none => (acc, some i)
      | some (fo, p, le) => if (ns.length : Int) ≤ i + fo then (acc, some i) else
        match tailGo ((ns.drop (i + 1)).take fo.toNat) p with
        | none => (acc, some i)
        | some q => if q < le ∨ q > 1114111 ∨ (55296 ≤ q ∧ q < 57344) then (acc, some i) else textGo ns f (i + 1 + fo.toNat) (acc ++ [q.toNat])
    else (acc, none)
theorem head_range {n : Int} {q : Int × Int × Int} (h : headOf n = some q) (h0 : 0 ≤ n) : 0 ≤ q.1 ∧ q.1 ≤ 3 ∧ 0 ≤ q.2.1 ∧ q.2.1 < 128 ∧ 0 ≤ q.2.2 := by
  unfold headOf at h
  split at h
  · cases h; simp; omega
  split at h
  · cases h; simp; omega
  split at h
  · cases h; simp; omega
  split at h
  · cases h; simp; omega
  · cases h
theorem and192 {n : Int} (h0 : 0 ≤ n) (h1 : n < 256) : Builtin.bitAnd n 192 = 128 ↔ 128 ≤ n ∧ n < 192 := by
  have key : ∀ k : Fin 256, (((k.val &&& 192 : Nat) : Int) = 128 ↔ 128 ≤ (k.val : Int) ∧ (k.val : Int) < 192) := by decide +kernel
  have := key ⟨n.toNat, by omega⟩
  have e : n = ((n.toNat : Nat) : Int) := by omega
  rw [e]
  exact this
theorem tail_bound {p : Int} {k : Nat} (h : p < 128 * 64 ^ k) (hk : k ≤ 2) : p < 524288 := by
  have : k = 0 ∨ k = 1 ∨ k = 2 := by omega
  rcases this with rfl | rfl | rfl
  · exact Int.lt_of_lt_of_le h (by decide)
  · exact Int.lt_of_lt_of_le h (by decide)
  · exact Int.lt_of_lt_of_le h (by decide)
theorem tail_next {p n : Int} {k : Nat} (h0 : 0 ≤ p) (h : p < 128 * 64 ^ k) : 0 ≤ p * 64 + n % 64 ∧ p * 64 + n % 64 < 128 * 64 ^ (k + 1) := by
  rw [Int.pow_succ]
  generalize (64 : Int) ^ k = z at *
  omega
theorem tail_or {p n : Int} (hp : 0 ≤ p) (hn : 0 ≤ n) : Builtin.bitOr (p * 2 ^ Int.toNat 6) (Builtin.bitAnd n 63) = p * 64 + n % 64 := by
  obtain ⟨x, rfl⟩ := off_nat 0 hp
  obtain ⟨y, rfl⟩ := off_nat 0 hn
  rw [Int.zero_add, Int.zero_add, and_mod, show (x : Int) * 2 ^ Int.toNat 6 = ((2 ^ 6 * x : Nat) : Int) by rw [show (2 : Int) ^ Int.toNat 6 = 64 from rfl]; omega, or_add (Nat.mod_lt _ (by decide))]
  omega
theorem clip_slice {ks : List Int} {i : Nat} {fo : Int} (h0 : 0 ≤ fo) (h : ¬ (ks.length : Int) ≤ i + fo) : ((ks.drop (clipAt ks.length ((i : Int) + 1))).take (clipAt ks.length ((i : Int) + 1 + fo) - clipAt ks.length ((i : Int) + 1))) = (ks.drop (i + 1)).take fo.toNat := by
  obtain ⟨x, rfl⟩ := off_nat 0 h0
  have c1 : clipAt ks.length ((i : Int) + 1) = i + 1 := by
    rw [show (i : Int) + 1 = ((i + 1 : Nat) : Int) by omega]
    exact (clipAt_nat _ _).trans (by omega)
  have c2 : clipAt ks.length ((i : Int) + 1 + (0 + (x : Int))) = i + 1 + x := by
    rw [show (i : Int) + 1 + (0 + (x : Int)) = ((i + 1 + x : Nat) : Int) by omega]
    exact (clipAt_nat _ _).trans (by omega)
  rw [c1, c2, Nat.add_sub_cancel_left, Int.zero_add]
  rfl
theorem strOf_cons (a : Nat) (r : List Nat) : (⟨#[a]⟩ : Str) ++ Str.ofString "" ++ strOf r = strOf (a :: r) := by
  show (⟨#[a] ++ #[] ++ r.toArray⟩ : Str) = ⟨(a :: r).toArray⟩
  simp
theorem join_signs (l : List Nat) : Txt.join (Str.ofString "") (l.map fun n => (⟨#[n]⟩ : Str)) = strOf l := by
  show Builtin.Str.glued (Str.ofString "") _ = _
  rw [StrLaws.glued_eq_join]
  induction l with
  | nil => rfl
  | cons a r ih =>
    cases r with
    | nil => rfl
    | cons b r =>
      show (⟨#[a]⟩ : Str) ++ Str.ofString "" ++ Str.join (Str.ofString "") (List.map (fun n => (⟨#[n]⟩ : Str)) (b :: r)) = _
      rw [ih]
      exact strOf_cons a (b :: r)
set_option maxHeartbeats 4000000 in
theorem gives_text (b : Array UInt8) (t : Tok) (bg : Int) (t2 : Tok) (vs : List Value) (hvs : vs = [.bytes b t, .int bg t2] ∨ (vs = [.bytes b t] ∧ bg = 0 ∧ t2 = 280)) (s : Shared) (hn : b.size ≤ 100) : GivesX w mean mg mb 87 vs s 16 128
    (fun r _ => (textGo (KBw.bInts b) b.size 0 []).2 = none ∧ ∃ t, r = .str (strOf (textGo (KBw.bInts b) b.size 0 []).1) t) (fun mA => ∃ i : Nat, (textGo (KBw.bInts b) b.size 0 []).2 = some i ∧ fieldsAt (bg + i) mA) := by
  intro dp un gd cn cs a ccd cl outer A₀ base h₀ L m Q E B F X T hk hd hu hret hexc
  have XX := X.keeps F.keep
  k_dflt (refine' enter_of (binds := [(Str.ofString "octets", .bytes b t), (Str.ofString "begin", .int bg t2)]) ?kB ?kF ?kX ?kT ?kk ?k1 ?k2 ?k3 ?k4 ?k5 ?_ ?c1 ?c2 ?c3 ?c4)
  (case kB => assumption); (case kF => assumption); (case kX => assumption); (case kT => assumption); (case kk => assumption)
  (case k1 => k_is); (case k2 => k_is); (case k3 => omega); (case k4 => (rcases hvs with rfl | ⟨rfl, rfl, rfl⟩; exact binds_K XX rfl rfl rfl rfl rfl; exact binds_K XX rfl rfl rfl rfl rfl)); (case k5 => exact locs rfl)
  (case c1 => exact rfl); (case c2 => exact rfl); (case c3 => exact rfl); (case c4 => decide)
  intro h₁ F₁ N₁ B₁ X₁ T₁; (try dsimp only)
  clear XX
  clear B F X T
  k_fold
  k_steps
  refine Hold.mk ?_
  (rename Fr _ _ _ _ => F9); (rename News _ _ _ _ => N9)
  rename_i l1 tk1
  obtain ⟨ls, hls⟩ : ∃ ls, News s.heap s.heap.objs.size _ [(ls, W.listOf #[] 0)] ∧ True := ⟨_, fun p hp => N9 p (List.mem_cons_of_mem _ hp), trivial⟩
  refine' ksw_while (σ := List Nat × Nat × Nat × Tok × Array Value × Nat) (fun c => [(_, W.listOf c.2.2.2.2.1 c.2.2.2.2.2)]) (fun c => [(Str.ofString "at", .int (c.2.1 : Nat) c.2.2.2.1)]) (fun _ => True)
    [Str.ofString "follow", Str.ofString "point", Str.ofString "least", Str.ofString "octet"]
    (fun c => c.2.1 ≤ b.size ∧ c.1.length ≤ c.2.1 ∧ b.size ≤ c.2.1 + c.2.2.1 ∧ StrsAre c.2.2.2.2.1.toList (c.1.map fun n => (⟨#[n]⟩ : Str)) ∧ textGo (KBw.bInts b) c.2.2.1 c.2.1 c.1 = textGo (KBw.bInts b) b.size 0 [])
    (fun c => b.size - c.2.1) ([], 0, b.size, _, #[], 0) F9 (fun p hp => N9 p (List.mem_cons_of_mem _ hp)) trivial (by kst_all) ⟨by simp, by simp, by simp, .nil, rfl⟩ ?_
  rintro ⟨acc, i, f, ta, sg, ep⟩ u h2 tk2 - ⟨hi, hacc, hf, hsg, hgo⟩ F2 N2
  dsimp only at hi hacc hf hsg hgo F2 N2
  show wpAny _ _ _ _ _ _
  k_fold
  k_steps
  · have hb := bInts_get (b := b) (i := i) (by omega)
    refine Hold.mk ?_
    (rename Fr _ _ _ _ => F3); (rename News _ _ _ _ => N3)
    obtain ⟨f', rfl⟩ : ∃ f', f = f' + 1 := ⟨f - 1, by omega⟩
    have hlen : (KBw.bInts b).length = b.size := KBw.ints_length b
    rw [textGo, if_pos (by omega)] at hgo
    have hL : s.heap.get? s.heap.objs.size = none := Heap.get?_none_of_le (Nat.le_refl _)
    have hbL : base.get? s.heap.objs.size = none := by
      cases q : base.get? s.heap.objs.size with
      | none => rfl
      | some o => have := B₁.stays _ _ q; rw [hL] at this; cases this
    refine gives_head _ _ _ _ _ hb.1 hb.2 _ _ _ _ _ _ _ _ _ _ _ _ _ _ _ _ B₁ F3 X₁ T₁ rfl (by ktr_room) (by ktr_units) ?ret ?exc
    case exc =>
      intro e d mA h' tk' X hx
      obtain ⟨hh, hfa⟩ := hx
      show wpAny _ _ (leaving _ _) _ _ _
      refine leave_next (L := s.heap.objs.size) (g := s.heap) rfl (base := base) (Heap.FunFrames.cons (fun q => nomatch q) rfl F3.ns hbL (B₁.frames.of_keeps fun b o x _ => ⟨o, F3.keep b o x, rfl⟩)) rfl hL F3.keep X fun h2 X2 => hexc e d mA h2 _ X2 ⟨i, ?_, hfa⟩
      rw [← hgo]
      rw [hh]
    case ret =>
      intro r h' tk' k hx
      obtain ⟨⟨fo, po, le⟩, tt, qa, qb, qc, hq, rfl, htup⟩ := hx
      rw [hq] at hgo
      have hr := head_range hq hb.1
      dsimp only at hgo htup hr
      have F4 := F3.keeps k
      have N4 := N3.grown k
      clear F3 N3
      k_steps
      · refine Hold.mk ?_
        refine Raise_row rfl ?_
        k_steps
        (rename Fr _ _ _ _ => F5)
        refine mal_leaves B₁ F5 X₁ T₁ rfl (by omega) (by omega) fun e d mA h' tk X hf => hexc e d mA h' tk X ⟨i, ?_, hf⟩
        rw [← hgo, if_pos (by omega)]
      (rename Fr _ _ _ _ => F5); (rename News _ _ _ _ => N5)
      refine KBc.slice_K (s := ⟨_, _, _, _, _⟩) F5 N5 (ks := KBw.bInts b) rfl (by constructor) (by constructor) (by rw [hlen]; omega) ?_
      intro h3 t3 tk3 F6 N6 hsl
      generalize hb2 : KBy.picked b (some ((i : Int) + 1)) (some ((i : Int) + 1 + fo)) = b2 at hsl ⊢
      generalize htl : KBw.bInts b2 = tl at hsl
      clear F5 N5
      have htl2 : tl = ((KBw.bInts b).drop (i + 1)).take fo.toNat := by
        rw [hsl]
        exact clip_slice hr.1 (by omega)
      have htl3 : tl.length ≤ 3 := by
        rw [htl2, List.length_take]
        omega
      clear hsl
      rw [if_neg (by omega), ← htl2] at hgo
      (try dsimp only)
      (with_reducible show wpAny _ _ (pyIter (Value.bytes _ _)) (fun it s₂ => LoopAtV _ _ _ _ _ _ _ _ _ it s₂) _ _)
      with_unfolding_all refine' KStb.kst_bytes (σ := Int × Tok) (ks := tl) (len := tl.length) (fun _ => [(_, W.listOf sg ep)]) (fun c => [(Str.ofString "point", .int c.1 c.2)]) (fun _ => True) [] (fun pre c => tailGo tl po = tailGo (tl.drop pre.length) c.1 ∧ 0 ≤ c.1 ∧ c.1 < 128 * (64 : Int) ^ pre.length) (po, _) htl rfl rfl F6 N6 trivial (by kst_all) ⟨by simp, hr.2.2.1, by simpa using hr.2.2.2.1⟩ ?_ ?_
      · rintro ⟨p, tp⟩ pre post n tn u3 h4 tk4 own hpp hlt hn0 hn1 hoff - ⟨hP1, hP2, hP3⟩ F7 N7
        dsimp only at hP1 hP2 hP3 F7 N7
        have hpb : p < 524288 := tail_bound hP3 (by omega)
        have hP4 := tail_next (n := n) hP2 hP3
        clear hP3
        show wpAny _ _ _ _ _ _
        k_fold
        have hdr : tl.drop pre.length = n :: post := by rw [hpp]; simp
        rw [hdr, tailGo] at hP1
        k_steps
        · refine Hold.mk ?_
          refine Raise_row rfl ?_
          k_steps
          (rename Fr _ _ _ _ => F8)
          refine mal_leaves B₁ F8 X₁ T₁ rfl (by omega) (by omega) fun e d mA h' tk X hf => hexc e d mA h' tk X ⟨i, ?_, hf⟩
          have hb1 := and192 hn0 hn1
          rw [if_neg (by rw [← hb1]; assumption)] at hP1
          rw [← hgo, hP1]
        · (rename Fr _ _ _ _ => F8); (rename News _ _ _ _ => N8)
          have hb1 := (and192 hn0 hn1).mp (by assumption)
          rw [if_pos hb1] at hP1
          have eb := tail_or hP2 hn0
          refine kst_end (p * 64 + n % 64, _) F8 N8 (fun q hq => List.mem_append_left _ hq) (fun q hq => List.mem_append_right _ hq) rfl trivial (fun q hq => by obtain rfl := List.mem_singleton.mp hq; with_unfolding_all exact congrArg (fun z => some (Value.int z _)) eb) (by intro z q1 q2 q3; simp only [List.contains_nil] at q3; have q4 := q2 _ (.head _); dsimp only at q4; simp [kstB, q1, q3, q4]) ⟨?_, hP4.1, ?_⟩
          · rw [hP1, List.length_append, List.length_singleton, ← List.drop_drop, hdr]; rfl
          · rw [List.length_append, List.length_singleton]
            exact hP4.2
      · rintro c u3 h4 tk4 hlen4 - hP F7 N7
        obtain ⟨p, tp⟩ := c
        obtain ⟨hP1, hP2, -⟩ := hP
        dsimp only at hP1 hP2 F7 N7
        rw [List.drop_length, tailGo] at hP1
        rw [hP1] at hgo
        dsimp only at hgo
        k_steps
        refine Hold.mk ?_
        refine meet_bool (v := decide (p < le ∨ p > 1114111 ∨ (55296 ≤ p ∧ p < 57344))) ?_ fun tkI => ?_
        · have hmark := MarkMeet.mk
          clear hgo hP1 hP2 hr hi hacc hf hlen hb htl2 htl3 hlen4 hret hexc hn hvs hd hu
          k_steps
          all_goals
            refine .mk (Bool.eq_iff_iff.mpr ?_) ⟨_, rfl⟩
            simp only [decide_eq_true_eq, Bool.false_eq_true, true_iff, false_iff]
            omega
        by_cases hbad : p < le ∨ p > 1114111 ∨ (55296 ≤ p ∧ p < 57344)
        · refine Eq.mpr (if_pos (decide_eq_true hbad)) ?_
          rw [if_pos hbad] at hgo
          k_steps
          refine Hold.mk ?_
          refine Raise_row rfl ?_
          k_steps
          (rename Fr _ _ _ _ => F8)
          refine mal_leaves B₁ F8 X₁ T₁ rfl (by omega) (by omega) fun e d mA h' tk X hf => hexc e d mA h' tk X ⟨i, ?_, hf⟩
          rw [← hgo]
        · refine Eq.mpr (if_neg (fun q => hbad (of_decide_eq_true q))) ?_
          rw [if_neg hbad] at hgo
          have hbl : 0 ≤ p ∧ p < 1114112 := by omega
          clear hbad
          k_steps
          refine Hold.mk ?_
          (rename Fr _ _ _ _ => F8); (rename News _ _ _ _ => N8)
          have eb : (i : Int) + 1 + fo = ((i + 1 + fo.toNat : Nat) : Int) := by omega
          (try simp only [List.push_toArray] at N8)
          refine ksw_end (acc ++ [p.toNat], i + 1 + fo.toNat, f', _, _, _) F8 N8 (by kst_in) trivial (fun q hq => by obtain rfl := List.mem_singleton.mp hq; with_unfolding_all exact congrArg (fun z => some (Value.int z _)) eb) (by intro z q1 q2; have q4 := q1 _ (.head _); dsimp only at q4; simp only [List.contains_cons, List.contains_nil, Bool.or_false, Bool.or_eq_false_iff, beq_eq_false_iff_ne, ne_eq] at q2; obtain ⟨q5, q6, q7, q8⟩ := q2; simp [kstB, q4, q5, q6, q7, q8]) ⟨by dsimp only; omega, by dsimp only; rw [List.length_append, List.length_singleton]; omega, by dsimp only; omega, ?_, hgo⟩ (by dsimp only; omega)
          dsimp only
          rw [List.map_append]
          (try rw [Array.toList_push])
          exact hsg.append' (.cons _ _ .nil)
  · (rename Fr _ _ _ _ => F8); (rename News _ _ _ _ => N8)
    have hlen : (KBw.bInts b).length = b.size := KBw.ints_length b
    have e : textGo (KBw.bInts b) f i acc = (acc, none) := by
      cases f with
      | zero => rfl
      | succ f => rw [textGo, if_neg (by omega)]
    rw [e] at hgo
    refine join_list (N8.isList (.head _)) hsg (by rw [signLens_sum]; show _ + _ * 0 ≤ _; omega) fun t' k => ?_
    (try dsimp only)
    exact hret _ _ _ F8.keep ⟨by rw [← hgo], t', by rw [join_signs, ← hgo]⟩
noncomputable def toldIs (h : Heap) (tt : Addr) (ns : List Int) (bg : Int) : Prop :=
  ∃ a b, IsTup h tt (match (textGo ns ns.length 0 []).2 with
    | none => [.str (Str.ofString "") a, .str (strOf (textGo ns ns.length 0 []).1) b].toArray
    | some i => [.str MSG a, .int (bg + i) b].toArray)
/-- a def that catches: the caller's frames are known up to their slots -/
noncomputable def GivesT (w : World) (mean : ExcName → Option Value) (mg mb : Str → Option Value) (f : Addr) (vs : List Value) (s : Shared) (D U : Nat) (P : Value → Heap → Prop) : Prop :=
  ∀ (dp un : Nat) (gd : Option (List Code)) (cn : Str) (cs : Scope) (a : Addr) (ccd : Value) (cl : List (Str × Addr)) (outer : List Env) (A₀ : Around) (base h₀ : Heap) (L : Addr) (m : Str → Option Value) (Q E : Value → Shared → Prop),
    Below A₀ base outer h₀ → Fr h₀ L s.heap m → (Mine.hd.heap_39 w.params).In h₀ → Top VW LO mean mg mb h₀ → (Mine.hd.heap_39 w.params).In base → Top VW LO mean mg mb base → cs.kind = .function → dp + D < recursionLimit → un + U < cLine →
    (∀ r h' tk, Stp ((envX cn cs L a ccd cl :: outer).filterMap (·.frame)) [] s.heap h' → P r h' → Q r { s with heap := h', toks := tk }) →
    wpAny (model PR w) (ktrTop dp un gd cn cs L a ccd cl outer) (call (.ref f) vs) Q E s
theorem Stp.of_kp {fs : List Addr} {h h' : Heap} (k : Kp h h') : Stp fs [] h h' := Stp.of_but fun b o _ x => k b o x
local macro_rules
  | `(tactic| walk_at "call ref") => `(tactic| (k_here; (with_reducible show wpAny _ _ (call (Value.ref 87) _) _ _ _); refine Hold.out ?_))
  | `(tactic| walk_at "getAttr ref") => `(tactic| (k_here; refine Hold.out ?_))
set_option maxHeartbeats 4000000 in
theorem gives_told (l : Addr) (ns : List Int) (bg : Int) (t2 : Tok) (s : Shared) (hl : IntsIn s.heap l ns) (hr : KBa.In ns) (hn : ns.length ≤ 100) : GivesT w mean mg mb 137 [.ref l, .int bg t2] s 24 160
    (fun r h => ∃ tt, r = .ref tt ∧ toldIs h tt ns bg) := by
  intro dp un gd cn cs a ccd cl outer A₀ base h₀ L m Q E B F X T XB TB hk hd hu hret
  obtain ⟨us, hl, hv⟩ := hl
  k_dflt (refine' enter_of (binds := [(Str.ofString "octets", .ref l), (Str.ofString "begin", .int bg t2)]) ?kB ?kF ?kX ?kT ?kk ?k1 ?k2 ?k3 ?k4 ?k5 ?_ ?c1 ?c2 ?c3 ?c4)
  (case kB => assumption); (case kF => assumption); (case kX => assumption); (case kT => assumption); (case kk => assumption)
  (case k1 => k_is); (case k2 => k_is); (case k3 => omega); (case k4 => exact BindsTo.of_eq rfl); (case k5 => exact locs rfl)
  (case c1 => exact rfl); (case c2 => exact rfl); (case c3 => exact rfl); (case c4 => decide)
  intro h₁ F₁ N₁ B₁ X₁ T₁; (try dsimp only)
  clear B F X T
  k_fold
  k_steps
  refine Hold.mk ?_
  (rename Fr _ _ _ _ => F3); (rename News _ _ _ _ => N3); (rename Below _ _ _ _ => B₁); (rename Frag.In _ _ => X₁); (rename Top _ _ _ _ _ _ => T₁)
  have eT : textGo (KBw.bInts (byteArr ns)) (byteArr ns).size 0 [] = textGo ns ns.length 0 [] := by rw [KBa.ints_make hr, byteArr_size]
  have GT := fun tb s' => gives_text (w := w) (mean := mean) (mg := mg) (mb := mb) (byteArr ns) tb bg t2 [.bytes (byteArr ns) tb, .int bg t2] (.inl rfl) s' (by rw [byteArr_size]; omega)
  rw [eT] at GT
  have hL : s.heap.get? s.heap.objs.size = none := Heap.get?_none_of_le (Nat.le_refl _)
  have hbL : base.get? s.heap.objs.size = none := by
    cases q : base.get? s.heap.objs.size with
    | none => rfl
    | some o => have := B₁.stays _ _ q; rw [hL] at this; cases this
  refine GT _ _ _ _ _ _ _ _ _ _ _ _ _ _ _ _ _ _ B₁ F3 X₁ T₁ rfl (by ktr_room) (by ktr_units) ?ret ?exc
  case ret =>
    rintro r h' tk' k ⟨hn0, t', rfl⟩
    have F4 := F3.keeps k
    have N4 := N3.grown k
    clear F3 N3
    k_steps
    (rename Fr _ _ _ _ => F8); (rename News _ _ _ _ => N8)
    (try dsimp only)
    exact hret _ _ _ (Stp.of_kp F8.keep) ⟨_, rfl, _, _, by rw [hn0]; exact tupOf N8 (.head _)⟩
  case exc =>
    rintro e d mA h' tk' X ⟨i, hi, u1, u2, hf1, hf2⟩
    have hl3 := Heap.FunFrames.cons (base := base) (env := envX (Str.ofString "_law_told") { kind := ScopeKind.function, names := [(Str.ofString "octets", NameKind.local), (Str.ofString "begin", NameKind.local), (Str.ofString "fault", NameKind.local), (Str.ofString "text_of", NameKind.globalImplicit), (Str.ofString "bytes", NameKind.globalImplicit), (Str.ofString "Malformed", NameKind.globalImplicit)], isGenerator := false, isCoroutine := false } s.heap.objs.size 137 (Value.ref 136) []) (outer := envX cn cs L a ccd cl :: outer) (fun q => nomatch q) rfl F3.ns hbL (B₁.frames.of_keeps fun b o x _ => ⟨o, F3.keep b o x, rfl⟩)
    show wpAny _ _ (noteFrame _ _) _ _ _
    refine note_catch (L := s.heap.objs.size) (base := base) rfl hl3 rfl X fun h2 X2 => ?_
    obtain ⟨b', F5, kb, kb', ku⟩ := mask_fr B₁ F3 hl3 X2.up
    have X' := XB.keeps kb
    have T' := TB.keeps kb
    have gb : ∀ {b : Addr}, (_ : Heap).get? b = none → b'.get? b = none := fun {b} q => by
      cases z : b'.get? b with
      | none => rfl
      | some o => obtain ⟨o0, z0⟩ := kb' _ _ z; have := F3.keep _ _ z0; rw [q] at this; cases this
    obtain ⟨oL, _, _, eL, -⟩ := id F3.ns
    clear F3 N3 X₁ T₁
    obtain ⟨up, heg, hdg, ⟨ta, TT, ts, he, hTe, hTg, hT, h30⟩, hns, hde⟩ := X2
    have heL : e ≠ s.heap.objs.size := fun q => by rw [q, eL] at heg; cases heg
    have hdL : d ≠ s.heap.objs.size := fun q => by rw [q, eL] at hdg; cases hdg
    have hTL : TT ≠ s.heap.objs.size := fun q => by rw [q, eL] at hTg; cases hTg
    obtain ⟨od, es, ep, hod, rest⟩ := id hns
    refine handle_self_as (oe := { cls := .ref 51, dict := some d, data := .fields #[.ref ta, .ref TT, .none, .none, .bool false, .none] }) (nm := Str.ofString "Malformed") (q := Str.ofString "Malformed") (C := 51) (N := 50) (bs := [.ref 31]) (bm := [.ref 31, .type "Exception", .type "BaseException", .type "object"]) (hdct := true) (sn := []) (sub := []) (ab := false) (col := none) (dd := none)
      (k0 := some (.ref 35)) (k1 := none) (k2 := some (.str (Str.ofString "Malformed") 218)) (k3 := some (.str (Str.ofString "Malformed") 226)) (k5 := some (.bool true)) (newId := "Exception.__new__") (by decide) ?_
    k_steps
    all_goals (try first | exact rfl | exact mal_at (X'.keeps F5.keep) | exact he)
    refine flight_none (s := ⟨h2, _, _, _, _⟩) he rfl (T := TT) (by rfl) hT rfl (Array.getElem?_eq_some_iff.mp h30).1 fun h3 st hT3 => ?_
    have F6 : Fr b' s.heap.objs.size h3 _ := ⟨st.ns F5.ns (by simpa using hTL.symm), fun b o x => by
      obtain ⟨sl, e1, q⟩ := st b o (by simp only [List.mem_singleton]; intro q; rw [q, gb hTg] at x; cases x) (F5.keep b o x)
      rw [e1, q (by simp)], F5.above⟩
    have he3 : h3.get? e = some { cls := .ref 51, dict := some d, data := .fields #[.ref ta, .ref TT, .none, .none, .bool false, .none] } := by
      obtain ⟨sl, e1, q⟩ := st e _ (by simpa using hTe.symm) he
      rw [e1, q (by simp)]
    have hdT : d ≠ TT := fun q => by rw [q, hT] at hod; cases hod; cases rest.1
    have hd3 : h3.get? d = some od := by
      obtain ⟨sl, e1, q⟩ := st d _ (by simpa using hdT) hod
      rw [e1, q (by simp)]
    have N6 : News b' s.heap.objs.size h3 [(e, { cls := .ref 51, dict := some d, data := .fields #[.ref ta, .ref TT, .none, .none, .bool false, .none] }), (d, od)] := fun p hp => by
      rcases List.mem_cons.mp hp with rfl | hp
      · exact ⟨he3, heL, gb heg⟩
      · rcases List.mem_cons.mp hp with rfl | hp
        · exact ⟨hd3, hdL, gb hdg⟩
        · cases hp
    clear F5
    k_steps
    refine Hold.mk ?_
    (rename Fr _ _ _ _ => F7); (rename News _ _ _ _ => N7)
    refine get_exc (x := e) (C := 51) (X'.keeps F7.keep) (N7 (e, _) (.head _)).1 rfl rfl rfl rfl rfl rfl rfl rfl ⟨od, es, ep, (N7 (d, od) (.tail _ (.head _))).1, rest⟩ hf1 rfl ?_
    k_steps
    refine Hold.mk ?_
    (rename Fr _ _ _ _ => F7); (rename News _ _ _ _ => N7)
    refine get_exc (x := e) (C := 51) (X'.keeps F7.keep) (N7 (e, _) (.head _)).1 rfl rfl rfl rfl rfl rfl rfl rfl ⟨od, es, ep, (N7 (d, od) (.tail _ (.head _))).1, rest⟩ hf2 rfl ?_
    k_steps
    (rename Fr _ _ _ _ => F8); (rename News _ _ _ _ => N8)
    refine hret _ _ _ (fun b o _ x => ?_) ⟨_, rfl, _, _, by rw [hi]; exact tupOf N8 (.head _)⟩
    obtain ⟨sl, e1, q⟩ := ku b o x
    refine ⟨sl, F8.keep _ _ e1, fun z => q fun y => ?_⟩
    rcases List.mem_cons.mp y with y | y
    · rw [y, hL] at x; cases x
    · exact z y
/-- P of the heap leans on a few sequences alone -/
noncomputable def Supp (h : Heap) (P : Heap → Prop) : Prop := ∃ ps : List (Addr × Obj), (∀ p ∈ ps, h.get? p.1 = some p.2 ∧ ∃ it n, p.2.data = .seq it n) ∧ ∀ h' : Heap, (∀ p ∈ ps, h'.get? p.1 = some p.2) → P h'
theorem Supp.and {h : Heap} {P Q : Heap → Prop} (x : Supp h P) (y : Supp h Q) : Supp h fun h => P h ∧ Q h := by
  obtain ⟨ps, h1, h2⟩ := x
  obtain ⟨qs, k1, k2⟩ := y
  refine ⟨ps ++ qs, fun p hp => ?_, fun h' e => ⟨h2 h' fun p hp => e p (List.mem_append_left _ hp), k2 h' fun p hp => e p (List.mem_append_right _ hp)⟩⟩
  rcases List.mem_append.mp hp with hp | hp
  · exact h1 p hp
  · exact k1 p hp
theorem Supp.mono {h : Heap} {P Q : Heap → Prop} (x : Supp h P) (k : ∀ h, P h → Q h) : Supp h Q := let ⟨ps, a, b⟩ := x; ⟨ps, a, fun h' e => k _ (b h' e)⟩
theorem Supp.true {h : Heap} {P : Prop} (x : P) : Supp h fun _ => P := ⟨[], fun _ hp => (nomatch hp), fun _ _ => x⟩
theorem Supp.tup {h : Heap} {t : Addr} {items : Array Value} (x : IsTup h t items) : Supp h fun h => IsTup h t items := by
  obtain ⟨o, e, c, n, d⟩ := x
  exact ⟨[(t, o)], fun p hp => by rw [List.mem_singleton.mp hp]; exact ⟨e, _, _, d⟩, fun h' k => ⟨o, k _ (.head _), c, n, d⟩⟩
theorem Supp.list {h : Heap} {t : Addr} {items : Array Value} (x : h.IsList t items) : Supp h fun h => h.IsList t items := by
  obtain ⟨o, e, c, n, d⟩ := x
  exact ⟨[(t, o)], fun p hp => by rw [List.mem_singleton.mp hp]; exact ⟨e, _, _, d⟩, fun h' k => ⟨o, k _ (.head _), c, n, d⟩⟩
theorem Supp.all {α : Type} {R : Heap → Value → α → Prop} {h : Heap} (k : ∀ v a, R h v a → Supp h fun h' => R h' v a) {vs : List Value} {as : List α} (x : All2 (R h) vs as) : Supp h fun h' => All2 (R h') vs as := by
  induction x with
  | nil => exact ⟨[], fun _ hp => (nomatch hp), fun _ _ => .nil⟩
  | cons r _ ih => exact ((k _ _ r).and ih).mono fun _ y => .cons y.1 y.2
theorem Supp.pair {h : Heap} {v : Value} {p : Int × Int} (x : PairAt h v p) : Supp h fun h => PairAt h v p := by
  obtain ⟨t, a, b, e, ht⟩ := x
  exact (Supp.tup ht).mono fun _ y => ⟨t, a, b, e, y⟩
theorem Supp.row {h : Heap} {v : Value} {r : Int × List (Int × Int)} (x : RowAt h v r) : Supp h fun h => RowAt h v r := by
  obtain ⟨t, a, l, e, ht, vs, hl, hp⟩ := x
  exact ((Supp.tup ht).and ((Supp.list hl).and (Supp.all (fun _ _ y => Supp.pair y) hp))).mono fun _ y => ⟨t, a, l, e, y.1, vs, y.2.1, y.2.2⟩
theorem Supp.rows {h : Heap} {l : Addr} {rs : List (Int × List (Int × Int))} (x : RowsAt h l rs) : Supp h fun h => RowsAt h l rs := by
  obtain ⟨vs, hl, hp⟩ := x
  exact ((Supp.list hl).and (Supp.all (fun _ _ y => Supp.row y) hp)).mono fun _ y => ⟨vs, y.1, y.2⟩
theorem Supp.ints {h : Heap} {l : Addr} {ns : List Int} (x : IntsIn h l ns) : Supp h fun h => IntsIn h l ns := by
  obtain ⟨vs, hl, hi⟩ := x
  exact (Supp.list hl).mono fun _ y => ⟨vs, y, hi⟩
/-- the ledger takes up what P leans on -/
theorem News.more {h₀ h : Heap} {L : Addr} {m : Str → Option Value} {news : List (Addr × Obj)} {P : Heap → Prop} (F : Fr h₀ L h m) (N : News h₀ L h news) (S : Supp h P) :
    ∃ rs, News h₀ L h rs ∧ News h₀ L h (news ++ rs) ∧ ∀ h', Kp h₀ h' → (∀ p ∈ rs, h'.get? p.1 = some p.2) → P h' := by
  obtain ⟨ps, h1, h2⟩ := S
  have hrs : News h₀ L h (ps.filter fun p => (h₀.get? p.1).isNone) := fun p hp => by
    obtain ⟨hm, hn⟩ := List.mem_filter.mp hp
    obtain ⟨e, it, n, hd⟩ := h1 p hm
    refine ⟨e, fun q => ?_, Option.isNone_iff_eq_none.mp hn⟩
    obtain ⟨oL, _, _, e1, e2, _⟩ := F.ns
    rw [← q, e] at e1
    cases e1
    rw [hd] at e2
    cases e2
  refine ⟨_, hrs, fun p hp => ?_, fun h' k e => h2 h' fun p hp => ?_⟩
  · rcases List.mem_append.mp hp with hp | hp
    · exact N p hp
    · exact hrs p hp
  · cases q : h₀.get? p.1 with
    | none => exact e p (List.mem_filter.mpr ⟨hp, by rw [q]; rfl⟩)
    | some o =>
      have := F.keep _ _ q
      rw [(h1 p hp).1] at this
      cases this
      exact k _ _ q
/-- one turn of text_of -/
noncomputable def tStep (ns : List Int) (i : Nat) : Option (Int × Nat) :=
  match headOf (ns.getD i 0) with
  | none => none
  | some (fo, p, le) => if (ns.length : Int) ≤ i + fo then none else
    match tailGo ((ns.drop (i + 1)).take fo.toNat) p with
    | none => none
    | some q => if q < le ∨ q > 1114111 ∨ (55296 ≤ q ∧ q < 57344) then none else some (q, 1 + fo.toNat)
theorem textGo_step (ns : List Int) (f i : Nat) (acc : List Nat) (h : i < ns.length) : textGo ns (f + 1) i acc = match tStep ns i with
    | none => (acc, some i)
    | some (q, k) => textGo ns f (i + k) (acc ++ [q.toNat]) := by
  unfold tStep
  rw [textGo, if_pos h]
  cases headOf (ns.getD i 0) with
  | none => rfl
  | some q =>
    obtain ⟨fo, p, le⟩ := q
    dsimp only
    split
    · rfl
    · cases tailGo ((ns.drop (i + 1)).take fo.toNat) p with
      | none => rfl
      | some q =>
        dsimp only
        split
        · rfl
        · dsimp only; rw [Nat.add_assoc]
/-- one turn of the law's read -/
noncomputable def rStep (ns : List Int) (i : Nat) : Option (Int × Nat) := (ROWS.filter fun r => lawFits r.2 ns i).head?.map fun r => (pointAt r ns i, r.2.length)
theorem readGo_step (ns : List Int) (f i : Nat) (acc : List Nat) (h : i < ns.length) : readGo ns (f + 1) i acc = match rStep ns i with
    | none => (acc, i)
    | some (q, k) => readGo ns f (i + k) (acc ++ [q.toNat]) := by
  unfold rStep
  rw [readGo, if_pos h]
  cases (ROWS.filter fun r => lawFits r.2 ns i).head? <;> rfl
theorem take_get (ns : List Int) (i k : Nat) (h : i + k ≤ ns.length) : (ns.drop i).take k = (List.range k).map fun j => ns.getD (i + j) 0 := by
  refine List.ext_getElem (by simp; omega) fun j h1 h2 => ?_
  simp only [List.length_take, List.length_drop] at h1
  rw [List.getElem_take, List.getElem_drop, List.getElem_map, List.getElem_range, List.getD_eq_getElem?_getD, List.getElem?_eq_getElem (by omega)]
  rfl
theorem fits1 {ns : List Int} {i : Nat} {p : Int × Int} (h : i + 1 ≤ ns.length) (h0 : p.1 ≤ ns.getD i 0 ∧ ns.getD i 0 < p.2) : lawFits [p] ns i = true :=
  fits_yes (by exact_mod_cast h) fun j hj => by
    obtain rfl : j = 0 := by simp at hj; exact hj
    exact h0
theorem fits2 {ns : List Int} {i : Nat} {p q : Int × Int} (h : i + 2 ≤ ns.length) (h0 : p.1 ≤ ns.getD i 0 ∧ ns.getD i 0 < p.2) (h1 : q.1 ≤ ns.getD (i + 1) 0 ∧ ns.getD (i + 1) 0 < q.2) : lawFits [p, q] ns i = true :=
  fits_yes (by exact_mod_cast h) fun j hj => match j, hj with
    | 0, _ => h0
    | 1, _ => h1
theorem fits3 {ns : List Int} {i : Nat} {p q r : Int × Int} (h : i + 3 ≤ ns.length) (h0 : p.1 ≤ ns.getD i 0 ∧ ns.getD i 0 < p.2) (h1 : q.1 ≤ ns.getD (i + 1) 0 ∧ ns.getD (i + 1) 0 < q.2) (h2 : r.1 ≤ ns.getD (i + 2) 0 ∧ ns.getD (i + 2) 0 < r.2) : lawFits [p, q, r] ns i = true :=
  fits_yes (by exact_mod_cast h) fun j hj => match j, hj with
    | 0, _ => h0
    | 1, _ => h1
    | 2, _ => h2
theorem fits4 {ns : List Int} {i : Nat} {p q r s : Int × Int} (h : i + 4 ≤ ns.length) (h0 : p.1 ≤ ns.getD i 0 ∧ ns.getD i 0 < p.2) (h1 : q.1 ≤ ns.getD (i + 1) 0 ∧ ns.getD (i + 1) 0 < q.2) (h2 : r.1 ≤ ns.getD (i + 2) 0 ∧ ns.getD (i + 2) 0 < r.2) (h3 : s.1 ≤ ns.getD (i + 3) 0 ∧ ns.getD (i + 3) 0 < s.2) : lawFits [p, q, r, s] ns i = true :=
  fits_yes (by exact_mod_cast h) fun j hj => match j, hj with
    | 0, _ => h0
    | 1, _ => h1
    | 2, _ => h2
    | 3, _ => h3
theorem getD_drop (ns : List Int) (i j : Nat) : ns.getD (i + j) 0 = (ns.drop i).getD j 0 := by
  rw [List.getD_eq_getElem?_getD, List.getD_eq_getElem?_getD, List.getElem?_drop]
theorem drop_len {ns l rest : List Int} {i : Nat} (h : ns.drop i = l ++ rest) (h1 : 1 ≤ l.length) : i + l.length ≤ ns.length := by
  have := congrArg List.length h
  rw [List.length_drop, List.length_append] at this
  omega
theorem head1 {a : Int} (h : a < 128) : headOf a = some (0, a, 0) := if_pos h
theorem head2 {a : Int} (h : 192 ≤ a ∧ a < 224) : headOf a = some (1, a - 192, 128) := by unfold headOf; rw [if_neg (by omega), if_pos h]
theorem head3 {a : Int} (h : 224 ≤ a ∧ a < 240) : headOf a = some (2, a - 224, 2048) := by unfold headOf; rw [if_neg (by omega), if_neg (by omega), if_pos h]
theorem head4 {a : Int} (h : 240 ≤ a ∧ a < 248) : headOf a = some (3, a - 240, 65536) := by unfold headOf; rw [if_neg (by omega), if_neg (by omega), if_neg (by omega), if_pos h]
theorem m64 {b : Int} (h : 128 ≤ b ∧ b < 192) : b % 64 = b - 128 := by omega
theorem tail_cons {b p : Int} {l : List Int} (h : 128 ≤ b ∧ b < 192) : tailGo (b :: l) p = tailGo l (p * 64 + (b - 128)) := by rw [tailGo, if_pos h, m64 h]
theorem tail_inv {b p q : Int} {l : List Int} (h : tailGo (b :: l) p = some q) : (128 ≤ b ∧ b < 192) ∧ tailGo l (p * 64 + (b - 128)) = some q := by
  by_cases hb : 128 ≤ b ∧ b < 192
  · exact ⟨hb, by rw [← tail_cons hb]; exact h⟩
  · rw [tailGo, if_neg hb] at h; cases h
/-- one turn of text_of at the form of a point -/
theorem Enc.step {l rest ns : List Int} {q : Int} {i : Nat} (h : Enc l q) (hd : ns.drop i = l ++ rest) : i < ns.length ∧ tStep ns i = some (q, l.length) := by
  have hl := drop_len hd h.in.1
  have hl1 := h.in.1
  refine ⟨by omega, ?_⟩
  have e0 : ns.getD i 0 = (l ++ rest).getD 0 0 := by rw [← hd, ← getD_drop]; rfl
  have ed : ns.drop (i + 1) = (l ++ rest).drop 1 := by rw [← hd, List.drop_drop]
  unfold tStep
  rw [e0, ed]
  clear e0 ed hd
  rcases h with ⟨a, rfl, rfl, h0, h1⟩ | ⟨a, b, rfl, hq, ha, hb, h1⟩ | ⟨a, b, c, rfl, hq, ha, hb, hc, h1, h2⟩ | ⟨a, b, c, d, rfl, hq, ha, hb, hc, hd, h1, h2⟩
  all_goals
    simp only [List.length_cons, List.length_nil, Nat.zero_add, Nat.reduceAdd] at hl
    clear hl1
    simp only [List.cons_append, List.nil_append, List.getD_cons_zero, List.drop_succ_cons, List.drop_zero]
  · rw [head1 h1]
    show (if (ns.length : Int) ≤ i + 0 then none else if _ then none else _) = _
    rw [if_neg (by omega), if_neg (by omega)]
    rfl
  · rw [head2 ha]
    show (if (ns.length : Int) ≤ i + 1 then none else match tailGo [b] (a - 192) with | none => none | some q => _) = _
    rw [if_neg (by omega), tail_cons hb, ← hq, tailGo]
    clear hl
    show (if _ then none else _) = _
    rw [if_neg (by omega)]
    rfl
  · rw [head3 ha]
    show (if (ns.length : Int) ≤ i + 2 then none else match tailGo [b, c] (a - 224) with | none => none | some q => _) = _
    rw [if_neg (by omega), tail_cons hb, tail_cons hc, ← hq, tailGo]
    clear hl
    show (if _ then none else _) = _
    rw [if_neg (by omega)]
    rfl
  · rw [head4 ha]
    show (if (ns.length : Int) ≤ i + 3 then none else match tailGo [b, c, d] (a - 240) with | none => none | some q => _) = _
    rw [if_neg (by omega), tail_cons hb, tail_cons hc, tail_cons hd, ← hq, tailGo]
    clear hl hq ha hb hc hd
    show (if _ then none else _) = _
    rw [if_neg (by omega)]
    rfl
theorem headOf_inv {a fo p le : Int} (h : headOf a = some (fo, p, le)) : (a < 128 ∧ fo = 0 ∧ p = a ∧ le = 0) ∨ ((192 ≤ a ∧ a < 224) ∧ fo = 1 ∧ p = a - 192 ∧ le = 128) ∨ ((224 ≤ a ∧ a < 240) ∧ fo = 2 ∧ p = a - 224 ∧ le = 2048) ∨ ((240 ≤ a ∧ a < 248) ∧ fo = 3 ∧ p = a - 240 ∧ le = 65536) := by
  unfold headOf at h
  split at h
  · cases h; exact .inl ⟨by assumption, rfl, rfl, rfl⟩
  split at h
  · cases h; exact .inr (.inl ⟨by assumption, rfl, rfl, rfl⟩)
  split at h
  · cases h; exact .inr (.inr (.inl ⟨by assumption, rfl, rfl, rfl⟩))
  split at h
  · cases h; exact .inr (.inr (.inr ⟨by assumption, rfl, rfl, rfl⟩))
  · cases h
/-- what text_of reads in one turn is the form of its point -/
theorem tStep_enc {ns : List Int} {i k : Nat} {q : Int} (hi : i < ns.length) (h0 : 0 ≤ ns.getD i 0) (h : tStep ns i = some (q, k)) : i + k ≤ ns.length ∧ Enc ((ns.drop i).take k) q := by
  unfold tStep at h
  cases hh : headOf (ns.getD i 0) with
  | none => rw [hh] at h; cases h
  | some x =>
    obtain ⟨fo, p, le⟩ := x
    rw [hh] at h
    dsimp only at h
    have hc := headOf_inv hh
    clear hh
    split at h
    · cases h
    rename_i hlen
    cases ht : tailGo ((ns.drop (i + 1)).take fo.toNat) p with
    | none => rw [ht] at h; cases h
    | some q' =>
      rw [ht] at h
      dsimp only at h
      split at h
      · cases h
      rename_i hbad
      obtain ⟨h1, h2⟩ := Prod.mk.inj (Option.some.inj h)
      subst h1 h2
      clear h
      rcases hc with ⟨ha, rfl, rfl, rfl⟩ | ⟨ha, rfl, rfl, rfl⟩ | ⟨ha, rfl, rfl, rfl⟩ | ⟨ha, rfl, rfl, rfl⟩
      · have hl : i + 1 ≤ ns.length := hi
        cases ht
        exact ⟨hl, .inl ⟨_, take_get ns i 1 hl, rfl, h0, ha⟩⟩
      · have hl : i + 2 ≤ ns.length := by omega
        rw [show ns.drop (i + 1) = ns.drop (i + 1) from rfl, take_get ns (i + 1) (Int.toNat 1) (by show i + 1 + 1 ≤ _; omega)] at ht
        obtain ⟨hb, ht⟩ := tail_inv (b := ns.getD (i + 1) 0) ht
        have hq := Option.some.inj ht
        exact ⟨hl, .inr (.inl ⟨_, _, take_get ns i 2 hl, hq.symm, ha, hb, Int.not_lt.mp fun z => hbad (.inl z)⟩)⟩
      · have hl : i + 3 ≤ ns.length := by omega
        rw [take_get ns (i + 1) (Int.toNat 2) (by show i + 1 + 2 ≤ _; omega)] at ht
        obtain ⟨hb, ht⟩ := tail_inv (b := ns.getD (i + 1) 0) ht
        obtain ⟨hc, ht⟩ := tail_inv (b := ns.getD (i + 2) 0) ht
        have hq := Option.some.inj ht
        exact ⟨hl, .inr (.inr (.inl ⟨_, _, _, take_get ns i 3 hl, hq.symm, ha, hb, hc, Int.not_lt.mp fun z => hbad (.inl z), fun z => hbad (.inr (.inr z))⟩))⟩
      · have hl : i + 4 ≤ ns.length := by omega
        rw [take_get ns (i + 1) (Int.toNat 3) (by show i + 1 + 3 ≤ _; omega)] at ht
        obtain ⟨hb, ht⟩ := tail_inv (b := ns.getD (i + 1) 0) ht
        obtain ⟨hc, ht⟩ := tail_inv (b := ns.getD (i + 2) 0) ht
        obtain ⟨hd, ht⟩ := tail_inv (b := ns.getD (i + 3) 0) ht
        have hq := Option.some.inj ht
        exact ⟨hl, .inr (.inr (.inr ⟨_, _, _, _, take_get ns i 4 hl, hq.symm, ha, hb, hc, hd, Int.not_lt.mp fun z => hbad (.inl z), Int.lt_of_not_ge fun z => hbad (.inr (.inl (by omega)))⟩))⟩
/-- a form fits a row -/
theorem Enc.fits {l rest ns : List Int} {q : Int} {i : Nat} (h : Enc l q) (hd : ns.drop i = l ++ rest) : ∃ r ∈ ROWS, lawFits r.2 ns i = true := by
  have hl := drop_len hd h.in.1
  have e0 : ns.getD i 0 = (l ++ rest).getD 0 0 := by rw [← hd, ← getD_drop]; rfl
  have e1 : ns.getD (i + 1) 0 = (l ++ rest).getD 1 0 := by rw [← hd, ← getD_drop]
  have e2 : ns.getD (i + 2) 0 = (l ++ rest).getD 2 0 := by rw [← hd, ← getD_drop]
  have e3 : ns.getD (i + 3) 0 = (l ++ rest).getD 3 0 := by rw [← hd, ← getD_drop]
  clear hd
  rcases h with ⟨a, rfl, rfl, h0, h1⟩ | ⟨a, b, rfl, hq, ha, hb, h1⟩ | ⟨a, b, c, rfl, hq, ha, hb, hc, h1, h2⟩ | ⟨a, b, c, d, rfl, hq, ha, hb, hc, hd, h1, h2⟩
  · exact ⟨_, .head _, fits1 hl (e0 ▸ ⟨h0, h1⟩)⟩
  · have ha' : 194 ≤ a ∧ a < 224 := by clear e0 e1 e2 e3 hl; omega
    exact ⟨_, .tail _ (.head _), fits2 hl (e0 ▸ ha') (e1 ▸ hb)⟩
  · have k : (a = 224 ∧ 160 ≤ b) ∨ (225 ≤ a ∧ a < 237) ∨ (a = 237 ∧ b < 160) ∨ (238 ≤ a ∧ a < 240) := by clear e0 e1 e2 e3 hl; omega
    clear hq h1 h2
    rcases k with ⟨k, k2⟩ | k | ⟨k, k2⟩ | k
    · subst k; exact ⟨_, .tail _ (.tail _ (.head _)), fits3 hl (e0 ▸ (by decide : (224 : Int) ≤ 224 ∧ (224 : Int) < 225)) (e1 ▸ ⟨k2, hb.2⟩) (e2 ▸ hc)⟩
    · exact ⟨_, .tail _ (.tail _ (.tail _ (.head _))), fits3 hl (e0 ▸ k) (e1 ▸ hb) (e2 ▸ hc)⟩
    · subst k; exact ⟨_, .tail _ (.tail _ (.tail _ (.tail _ (.head _)))), fits3 hl (e0 ▸ (by decide : (237 : Int) ≤ 237 ∧ (237 : Int) < 238)) (e1 ▸ ⟨hb.1, k2⟩) (e2 ▸ hc)⟩
    · exact ⟨_, .tail _ (.tail _ (.tail _ (.tail _ (.tail _ (.head _))))), fits3 hl (e0 ▸ k) (e1 ▸ hb) (e2 ▸ hc)⟩
  · have k : (a = 240 ∧ 144 ≤ b) ∨ (241 ≤ a ∧ a < 244) ∨ (a = 244 ∧ b < 144) := by clear e0 e1 e2 e3 hl; omega
    clear hq h1 h2
    rcases k with ⟨k, k2⟩ | k | ⟨k, k2⟩
    · subst k; exact ⟨_, .tail _ (.tail _ (.tail _ (.tail _ (.tail _ (.tail _ (.head _)))))), fits4 hl (e0 ▸ (by decide : (240 : Int) ≤ 240 ∧ (240 : Int) < 241)) (e1 ▸ ⟨k2, hb.2⟩) (e2 ▸ hc) (e3 ▸ hd)⟩
    · exact ⟨_, .tail _ (.tail _ (.tail _ (.tail _ (.tail _ (.tail _ (.tail _ (.head _))))))), fits4 hl (e0 ▸ k) (e1 ▸ hb) (e2 ▸ hc) (e3 ▸ hd)⟩
    · subst k; exact ⟨_, .tail _ (.tail _ (.tail _ (.tail _ (.tail _ (.tail _ (.tail _ (.tail _ (.head _)))))))), fits4 hl (e0 ▸ (by decide : (244 : Int) ≤ 244 ∧ (244 : Int) < 245)) (e1 ▸ ⟨hb.1, k2⟩) (e2 ▸ hc) (e3 ▸ hd)⟩
theorem rStep_enc {ns : List Int} {i k : Nat} {q : Int} (h : rStep ns i = some (q, k)) : i + k ≤ ns.length ∧ Enc ((ns.drop i).take k) q := by
  unfold rStep at h
  cases hf : (ROWS.filter fun r => lawFits r.2 ns i).head? with
  | none => rw [hf] at h; cases h
  | some r =>
    rw [hf] at h
    obtain ⟨h1, h2⟩ := Prod.mk.inj (Option.some.inj h)
    subst h1 h2
    obtain ⟨hr, hfit⟩ := List.mem_filter.mp (List.mem_of_mem_head? hf)
    have hl := (fits_spec hfit).1
    exact ⟨hl, by rw [take_get ns i _ hl]; exact row_enc hr hfit⟩
theorem rStep_some {ns : List Int} {i : Nat} {r : Int × List (Int × Int)} (hr : r ∈ ROWS) (h : lawFits r.2 ns i = true) : ∃ x, rStep ns i = some x := by
  unfold rStep
  cases hf : (ROWS.filter fun r => lawFits r.2 ns i).head? with
  | none =>
    rw [List.head?_eq_none_iff] at hf
    have : r ∈ ROWS.filter fun r => lawFits r.2 ns i := List.mem_filter.mpr ⟨hr, h⟩
    rw [hf] at this
    cases this
  | some r => exact ⟨_, rfl⟩
theorem enc_len {ns : List Int} {i k : Nat} (h : i + k ≤ ns.length) : ((ns.drop i).take k).length = k := by rw [List.length_take, List.length_drop]; omega
theorem rStep_tStep {ns : List Int} {i k : Nat} {q : Int} (h : rStep ns i = some (q, k)) : tStep ns i = some (q, k) := by
  obtain ⟨hl, he⟩ := rStep_enc h
  have := (he.step (rest := (ns.drop i).drop k) (by rw [List.take_append_drop])).2
  rw [enc_len hl] at this
  exact this
theorem step_eq (ns : List Int) (i : Nat) (h : i < ns.length) (h0 : 0 ≤ ns.getD i 0) : tStep ns i = rStep ns i := by
  cases hr : rStep ns i with
  | some x => exact rStep_tStep hr
  | none =>
    cases ht : tStep ns i with
    | none => rfl
    | some x =>
      obtain ⟨hl, he⟩ := tStep_enc h h0 ht
      obtain ⟨r, hm, hf⟩ := he.fits (rest := (ns.drop i).drop x.2) (by rw [List.take_append_drop])
      obtain ⟨y, hy⟩ := rStep_some hm hf
      rw [hr] at hy
      cases hy
theorem rStep_spec {ns : List Int} {i : Nat} {q : Int} {k : Nat} (h : rStep ns i = some (q, k)) : ValidP q ∧ 1 ≤ k ∧ i + k ≤ ns.length ∧ u8 q.toNat = (ns.drop i).take k := by
  obtain ⟨hl, he⟩ := rStep_enc h
  obtain ⟨n, rfl, hv, hu⟩ := he.u8
  have h1 := he.in.1
  rw [enc_len hl] at h1
  exact ⟨hv, h1, hl, hu⟩
noncomputable def flat (l : List Nat) : List Int := l.flatMap u8
theorem flat_snoc (l : List Nat) (n : Nat) : flat (l ++ [n]) = flat l ++ u8 n := by simp [flat]
/-- text_of reads as the law's table does; what is read gives its octets back -/
theorem read_text (ns : List Int) (hb : ∀ n ∈ ns, 0 ≤ n ∧ n < 256) : ∀ f i acc, i ≤ ns.length → ns.length ≤ i + f → flat acc = ns.take i → (∀ c ∈ acc, ValidP (c : Int)) →
    (readGo ns f i acc).2 ≤ ns.length ∧ flat (readGo ns f i acc).1 = ns.take (readGo ns f i acc).2 ∧ (∀ c ∈ (readGo ns f i acc).1, ValidP (c : Int)) ∧
      textGo ns f i acc = ((readGo ns f i acc).1, if (readGo ns f i acc).2 = ns.length then none else some (readGo ns f i acc).2) := by
  intro f
  induction f with
  | zero =>
    intro i acc h1 h2 h3 h4
    have : i = ns.length := by omega
    exact ⟨h1, h3, h4, by show (acc, none) = (acc, if i = ns.length then none else some i); rw [if_pos this]⟩
  | succ f ih =>
    intro i acc h1 h2 h3 h4
    by_cases hi : i < ns.length
    · have h0 : 0 ≤ ns.getD i 0 := by
        rw [List.getD_eq_getElem?_getD, List.getElem?_eq_getElem hi]
        exact (hb _ (List.getElem_mem hi)).1
      rw [readGo_step ns f i acc hi, textGo_step ns f i acc hi, step_eq ns i hi h0]
      cases hs : rStep ns i with
      | none => exact ⟨h1, h3, h4, by show (acc, some i) = (acc, if i = ns.length then none else some i); rw [if_neg (by omega)]⟩
      | some qk =>
        obtain ⟨q, k⟩ := qk
        obtain ⟨hv, hk1, hk2, hu⟩ := rStep_spec hs
        dsimp only
        refine ih (i + k) _ hk2 (by omega) ?_ ?_
        · rw [flat_snoc, h3, hu, List.take_add]
        · intro c hc
          rcases List.mem_append.mp hc with hc | hc
          · exact h4 c hc
          · rw [List.mem_singleton.mp hc]
            unfold ValidP at hv ⊢
            omega
    · have e1 : readGo ns (f + 1) i acc = (acc, i) := by rw [readGo, if_neg hi]
      have e2 : textGo ns (f + 1) i acc = (acc, none) := by rw [textGo, if_neg hi]
      rw [e1, e2]
      exact ⟨h1, h3, h4, by show (acc, none) = (acc, if i = ns.length then none else some i); rw [if_pos (by omega)]⟩
theorem formGo_acc (l : List (Int × Int)) : ∀ rest acc, formGo l rest acc = formGo l rest [] ++ acc := by
  induction l with
  | nil => intro rest acc; rfl
  | cons p l ih =>
    intro rest acc
    obtain ⟨lo, be⟩ := p
    rw [formGo, ih, formGo, ih _ [_], List.append_assoc]
    rfl
noncomputable def prodOf : List (Int × Int) → Int
  | [] => 1
  | p :: l => prodOf l * (p.2 - p.1)
theorem getD_left {α : Type} {l m : List α} {j : Nat} {d : α} (h : j < l.length) : (l ++ m).getD j d = l.getD j d := by rw [List.getD_eq_getElem?_getD, List.getD_eq_getElem?_getD, List.getElem?_append_left h]
theorem countTo_left (l : List (Int × Int)) (F : List Int) (p : Int × Int) (x : Int) : ∀ k, k ≤ l.length → k ≤ F.length → countTo (l ++ [p]) (F ++ [x]) 0 k = countTo l F 0 k := by
  intro k
  induction k with
  | zero => intro _ _; rfl
  | succ k ih =>
    intro h1 h2
    rw [countTo, countTo, ih (by omega) (by omega), getD_left (by omega), getD_left (by omega)]
/-- the digits of a count fit their row, and count so much -/
theorem form_fits (l : List (Int × Int)) : ∀ rest : Int, 0 ≤ rest → rest < prodOf l → (∀ p ∈ l, 0 < p.2 - p.1) → (formGo l rest []).length = l.length ∧
    (∀ j : Nat, j < l.length → (l.reverse.getD j (0, 0)).1 ≤ (formGo l rest []).getD j 0 ∧ (formGo l rest []).getD j 0 < (l.reverse.getD j (0, 0)).2) ∧ countTo l.reverse (formGo l rest []) 0 l.length = rest := by
  induction l with
  | nil => intro rest h0 h1 _; exact ⟨rfl, fun j hj => absurd hj (Nat.not_lt_zero _), by have : prodOf [] = 1 := rfl; show (0 : Int) = rest; omega⟩
  | cons p l ih =>
    intro rest h0 h1 hp
    obtain ⟨lo, be⟩ := p
    have hn : 0 < be - lo := hp _ (.head _)
    have hm := fmod_facts rest hn
    have hd : rest.fdiv (be - lo) = rest / (be - lo) := Int.fdiv_eq_ediv_of_nonneg _ (Int.le_of_lt hn)
    obtain ⟨i1, i2, i3⟩ := ih (rest.fdiv (be - lo)) (by rw [hd]; exact Int.ediv_nonneg h0 (Int.le_of_lt hn)) (by rw [hd]; exact Int.ediv_lt_of_lt_mul hn h1) (fun q hq => hp q (.tail _ hq))
    rw [formGo, formGo_acc, List.reverse_cons]
    generalize formGo l (rest.fdiv (be - lo)) [] = F at *
    have e1 : (F ++ [lo + rest.fmod (be - lo)]).getD l.length 0 = lo + rest.fmod (be - lo) := by rw [← i1]; simp
    have e2 : (l.reverse ++ [(lo, be)]).getD l.length (0, 0) = (lo, be) := by
      have := List.length_reverse (as := l)
      rw [← this]; simp
    refine ⟨by rw [List.length_append, i1]; rfl, fun j hj => ?_, ?_⟩
    · rw [List.length_cons] at hj
      by_cases hjl : j < l.length
      · rw [getD_left (by rw [List.length_reverse]; exact hjl), getD_left (by rw [i1]; exact hjl)]
        exact i2 j hjl
      · obtain rfl : j = l.length := by omega
        rw [e1, e2]
        clear i2 i3 e1 e2 h0 h1
        dsimp only
        omega
    · rw [List.length_cons, countTo, countTo_left _ _ _ _ _ (by rw [List.length_reverse]; exact Nat.le_refl _) (by rw [i1]; exact Nat.le_refl _), i3, Nat.zero_add, e1, e2]
      dsimp only
      have := Int.fmod_add_mul_fdiv rest (be - lo)
      rw [Int.mul_comm] at this
      generalize rest.fdiv (be - lo) * (be - lo) = z at *
      clear i2 i3 e1 e2 h0 h1 hm hd
      omega
theorem rows_sorted : ROWS.Pairwise fun a b => a.1 ≤ b.1 := by decide
theorem rows_next : ∀ r ∈ ROWS, 0 < prodOf r.2.reverse ∧ (r.1 + prodOf r.2.reverse = 1114112 ∨ r.1 + prodOf r.2.reverse = 55296 ∨ ∃ r' ∈ ROWS, r'.1 = r.1 + prodOf r.2.reverse) := by decide
theorem last_max {l : List (Int × List (Int × Int))} (h : l.Pairwise fun a b => a.1 ≤ b.1) {x : Int × List (Int × Int)} (hx : x ∈ l) (d : Int × List (Int × Int)) : x.1 ≤ (l.getLast?.getD d).1 := by
  induction l generalizing x with
  | nil => cases hx
  | cons a l ih =>
    cases l with
    | nil => rw [List.mem_singleton.mp hx]; exact Int.le_refl _
    | cons b l =>
      rw [List.getLast?_cons_cons]
      obtain ⟨h1, h2⟩ := List.pairwise_cons.mp h
      rcases List.mem_cons.mp hx with rfl | hx
      · exact Int.le_trans (h1 b (.head _)) (ih h2 (.head _))
      · exact ih h2 hx
theorem lawRow_max {p : Int} {r : Int × List (Int × Int)} (hr : r ∈ ROWS) (h : r.1 ≤ p) : r.1 ≤ (lawRow p).1 :=
  last_max (rows_sorted.filter _) (List.mem_filter.mpr ⟨hr, decide_eq_true h⟩) _
theorem form_enc {p : Int} (h : ValidP p) : Enc (lawForm p) p := by
  obtain ⟨h0, h1, h2⟩ := h
  obtain ⟨hr, hle, -⟩ := lawRow_mem h0
  have hmax := fun r hr => lawRow_max (p := p) (r := r) hr
  obtain ⟨hpos, hnext⟩ := rows_next _ hr
  have hsm := (rows_small _ hr).2.2.1
  unfold lawForm
  generalize lawRow p = r at *
  have hlt : p < r.1 + prodOf r.2.reverse := by
    rcases hnext with e | e | ⟨r', hr', e⟩
    · rw [e]; exact h1
    · have := hmax (57344, _) (.tail _ (.tail _ (.tail _ (.tail _ (.tail _ (.head _))))))
      dsimp only at this
      omega
    · have := hmax r' hr'
      omega
  obtain ⟨f1, f2, f3⟩ := form_fits r.2.reverse (p - r.1) (by omega) (by omega) (fun q hq => by have := hsm q (List.mem_reverse.mp hq); omega)
  clear hmax hnext hsm hpos hlt h1 h2
  rw [List.length_reverse, List.reverse_reverse] at *
  generalize formGo r.2.reverse (p - r.1) [] = F at *
  have hfit : lawFits r.2 F ((0 : Nat) : Int) = true := fits_yes (by rw [f1]; show (0 : Int) + _ ≤ _; omega) fun j hj => by
    show _ ≤ F.getD (0 + j) 0 ∧ F.getD (0 + j) 0 < _
    rw [Nat.zero_add]
    exact f2 j hj
  have he := row_enc hr hfit
  rw [← f1, ← take_get F 0 F.length (by omega), List.drop_zero, List.take_length] at he
  have hpt : pointAt r F 0 = p := by unfold pointAt; rw [f3]; omega
  rw [hpt] at he
  exact he
theorem lawForm_u8 {p : Int} (h : ValidP p) : lawForm p = u8 p.toNat := by
  obtain ⟨n, rfl, _, hu⟩ := (form_enc h).u8
  exact hu.symm
theorem textGo_flat (ns : List Int) : ∀ (l : List Nat) (f i : Nat) (acc : List Nat), ns.drop i = flat l → (∀ c ∈ l, ValidP (c : Int)) → ns.length ≤ i + f → textGo ns f i acc = (acc ++ l, none) := by
  intro l
  induction l with
  | nil =>
    intro f i acc h _ _
    have hi : ¬ i < ns.length := by
      have := congrArg List.length h
      rw [List.length_drop] at this
      simp [flat] at this
      omega
    rw [List.append_nil]
    cases f with
    | zero => rfl
    | succ f => rw [textGo, if_neg hi]
  | cons c l ih =>
    intro f i acc h hv hf
    have h' : ns.drop i = u8 c ++ flat l := by rw [h]; simp [flat]
    obtain ⟨hi, hs⟩ := (Enc.of_u8 (hv c (.head _))).step h'
    obtain ⟨f', rfl⟩ : ∃ f', f = f' + 1 := ⟨f - 1, by omega⟩
    have hu := (u8_len c).1
    rw [textGo_step ns f' i acc hi, hs]
    dsimp only
    rw [ih f' _ _ ?_ (fun d hd => hv d (.tail _ hd)) (by omega)]
    · simp
    · rw [← List.drop_drop, h', List.drop_left]
theorem byteArr_app (x y : List Int) : byteArr (x ++ y) = byteArr x ++ byteArr y := by simp [byteArr]
theorem encs_flat (l : List Nat) : encs l = byteArr (flat l) := by
  have key : ∀ (l : List Nat) (b : Array UInt8), (l.map fun c => byteArr (u8 c)).foldl (· ++ ·) b = b ++ byteArr (flat l) := by
    intro l
    induction l with
    | nil => intro b; simp [flat, byteArr]
    | cons c l ih =>
      intro b
      rw [List.map_cons, List.foldl_cons, ih, show flat (c :: l) = u8 c ++ flat l by simp [flat], byteArr_app, Array.append_assoc]
  unfold encs
  rw [key]
  simp
noncomputable def leastK (k : Nat) : Int := (ROWS.getD k (0, [])).1
noncomputable def pointK (ns : List Int) (k : Nat) : Int := lawPoint (ns.getD k 0 + (if leastK k < 55296 then leastK k else leastK k - 2048))
noncomputable def formK (ns : List Int) (k : Nat) : List Int := lawForm (pointK ns k)
noncomputable def spoilK (ns : List Int) (k : Nat) : List Int := lawSpoiled (formK ns k) (ns.getD (9 + k) 0)
noncomputable def ptsOf (ns : List Int) (j : Nat) : List Int := (List.range j).map (pointK ns)
noncomputable def wholeOf (ns : List Int) (j : Nat) : List Int := (List.range j).flatMap (formK ns)
noncomputable def octsOf (ns : List Int) (j : Nat) : List Int := (List.range j).flatMap (spoilK ns)
theorem ptsOf_succ (ns : List Int) (j : Nat) : ptsOf ns (j + 1) = ptsOf ns j ++ [pointK ns j] := by unfold ptsOf; rw [List.range_succ, List.map_append]; rfl
theorem wholeOf_succ (ns : List Int) (j : Nat) : wholeOf ns (j + 1) = wholeOf ns j ++ formK ns j := by unfold wholeOf; rw [List.range_succ, List.flatMap_append]; simp
theorem octsOf_succ (ns : List Int) (j : Nat) : octsOf ns (j + 1) = octsOf ns j ++ spoilK ns j := by unfold octsOf; rw [List.range_succ, List.flatMap_append]; simp
theorem lawPoint_valid (n : Int) : ValidP (lawPoint n) := by
  have h := fmod_facts n (n := 1112064) (by decide)
  unfold lawPoint ValidP
  split <;> omega
theorem form_in (ns : List Int) (k : Nat) : 1 ≤ (formK ns k).length ∧ (formK ns k).length ≤ 4 ∧ ∀ n ∈ formK ns k, 0 ≤ n ∧ n < 256 := by
  have hv : ValidP (pointK ns k) := lawPoint_valid _
  unfold formK
  rw [lawForm_u8 hv]
  exact ⟨(u8_len _).1, (u8_len _).2, u8_in (by obtain ⟨a, b, c⟩ := hv; exact ⟨by omega, by omega, by omega⟩)⟩
theorem spoiled_in (form : List Int) (sp : Int) (h1 : form.length ≤ 4) (h2 : ∀ n ∈ form, 0 ≤ n ∧ n < 256) : (lawSpoiled form sp).length ≤ 5 ∧ ∀ n ∈ lawSpoiled form sp, 0 ≤ n ∧ n < 256 := by
  have hm := fmod_facts (sp.fdiv 6) (n := 256) (by decide)
  unfold lawSpoiled
  split
  · refine ⟨by simp only [List.length_append, List.length_take, List.length_drop, List.length_singleton]; omega, fun n hn => ?_⟩
    rcases List.mem_append.mp hn with hn | hn
    · rcases List.mem_append.mp hn with hn | hn
      · exact h2 n (List.mem_of_mem_take hn)
      · rw [List.mem_singleton.mp hn]; exact hm
    · exact h2 n (List.mem_of_mem_drop hn)
  split
  · exact ⟨by rw [List.length_take]; omega, fun n hn => h2 n (List.mem_of_mem_take hn)⟩
  split
  · refine ⟨by simp only [List.length_append, List.length_singleton]; omega, fun n hn => ?_⟩
    rcases List.mem_append.mp hn with hn | hn
    · rw [List.mem_singleton.mp hn]; exact hm
    · exact h2 n hn
  split
  · have h4 := fmod_facts ((sp.fdiv 6).fdiv (256 ^ Int.toNat 4)) (n := 4) (by decide)
    refine ⟨by rw [List.length_map, rangeKs_length]; omega, fun n hn => ?_⟩
    obtain ⟨k, _, rfl⟩ := List.mem_map.mp hn
    exact fmod_facts _ (by decide)
  · exact ⟨by omega, h2⟩
theorem octs_in (ns : List Int) (j : Nat) : (octsOf ns j).length ≤ 5 * j ∧ ∀ n ∈ octsOf ns j, 0 ≤ n ∧ n < 256 := by
  induction j with
  | zero => exact ⟨by simp [octsOf], by simp [octsOf]⟩
  | succ j ih =>
    have hf := form_in ns j
    have hs := spoiled_in (formK ns j) (ns.getD (9 + j) 0) hf.2.1 hf.2.2
    rw [octsOf_succ]
    refine ⟨by rw [List.length_append]; unfold spoilK; omega, fun n hn => ?_⟩
    rcases List.mem_append.mp hn with hn | hn
    · exact ih.2 n hn
    · exact hs.2 n hn
theorem whole_in (ns : List Int) (j : Nat) : (wholeOf ns j).length ≤ 4 * j ∧ ∀ n ∈ wholeOf ns j, 0 ≤ n ∧ n < 256 := by
  induction j with
  | zero => exact ⟨by simp [wholeOf], by simp [wholeOf]⟩
  | succ j ih =>
    have hf := form_in ns j
    rw [wholeOf_succ]
    refine ⟨by rw [List.length_append]; omega, fun n hn => ?_⟩
    rcases List.mem_append.mp hn with hn | hn
    · exact ih.2 n hn
    · exact hf.2.2 n hn
theorem pts_len (ns : List Int) (j : Nat) : (ptsOf ns j).length = j := by simp [ptsOf]
noncomputable def ptsN (ns : List Int) : List Nat := (ptsOf ns 9).map Int.toNat
theorem whole_flat (ns : List Int) (j : Nat) : wholeOf ns j = flat ((ptsOf ns j).map Int.toNat) := by
  induction j with
  | zero => rfl
  | succ j ih =>
    rw [wholeOf_succ, ptsOf_succ, List.map_append, ih, List.map_singleton, flat_snoc]
    have hv : ValidP (pointK ns j) := lawPoint_valid _
    unfold formK
    rw [lawForm_u8 hv]
theorem ptsN_valid (ns : List Int) : ∀ c ∈ ptsN ns, ValidP (c : Int) := by
  intro c hc
  obtain ⟨p, hp, rfl⟩ := List.mem_map.mp hc
  obtain ⟨k, _, rfl⟩ := List.mem_map.mp hp
  have hv : ValidP (pointK ns k) := lawPoint_valid _
  unfold ValidP at hv ⊢
  omega
/-- what the law asks of the whole octets -/
theorem whole_text (ns : List Int) : encs (ptsN ns) = byteArr (wholeOf ns 9) ∧ textGo (wholeOf ns 9) (wholeOf ns 9).length 0 [] = (ptsN ns, none) := by
  refine ⟨by rw [encs_flat, whole_flat]; rfl, ?_⟩
  exact (textGo_flat (wholeOf ns 9) (ptsN ns) _ 0 [] (by rw [whole_flat]; rfl) (ptsN_valid ns) (by omega)).trans (by simp)
theorem flat_len (l : List Nat) : l.length ≤ (flat l).length := by
  induction l with
  | nil => simp
  | cons c l ih =>
    have := (u8_len c).1
    rw [show flat (c :: l) = u8 c ++ flat l by simp [flat], List.length_append, List.length_cons]
    omega
theorem strOf_ok {l : List Nat} (h : ∀ c ∈ l, ValidP (c : Int)) : PyData.strOk (strOf l) = true := by
  unfold PyData.strOk strOf
  rw [Array.all_eq_true]
  intro i hi
  have hv := h (l.toArray[i]) (by simp)
  obtain ⟨_, h2, _⟩ := hv
  refine decide_eq_true ?_
  show l.toArray[i] < 1114112
  omega
local macro_rules
  | `(tactic| walk_at "call ref") => `(tactic| (k_here; (with_reducible show wpAny _ _ (call (Value.ref _) _) _ _ _); refine Hold.out ?_))
  | `(tactic| walk_at "subscriptTail") => `(tactic| (k_here; (with_reducible show wpAny _ _ (subscriptTail _ _ (Value.ref _) (Value.int _ _)) _ _ _); refine Hold.out ?_))
  | `(tactic| walk_at "eval IfExp") => `(tactic| (k_here; refine Hold.out ?_))
  | `(tactic| walk_at "eval Call") => `(tactic| (k_here; k_dflt (refine Call_ ?_)))
  | `(tactic| walk_at "call builtin:list.append") => `(tactic| (k_here; refine Hold.out ?_))
  | `(tactic| walk_at "call builtin:list.extend") => `(tactic| (k_here; refine Hold.out ?_))
  | `(tactic| walk_at "compareOp Eq ref ref") => `(tactic| (k_here; k_dflt (refine Hold.out ?_)))
structure MeetI (v : Int) (s : Shared) (r : Value) (s' : Shared) : Prop where
  met : ∃ t tk, r = .int v t ∧ s' = { s with toks := tk }
theorem meet_int {M : Model} {A : Around} {E : Value → Shared → Prop} {s : Shared} {x : Sem Value} {v : Int} {Q : Value → Shared → Prop} (h1 : wpAny M A x (MeetI v s) E s)
    (h2 : ∀ t tk, Q (.int v t) { s with toks := tk }) : wpAny M A x Q E s := wpAny_mono h1 (fun _ _ ⟨_, _, e1, e2⟩ => by subst e1 e2; exact h2 _ _) fun _ _ z => z
theorem call_fullR {prog : Program} {w : World} {A : Around} {Q E : Value → Shared → Prop} {s : Shared} {name : Str} {params : Arguments} {body : List Stmt} {scope : Scope} {dV kV pm cd doc : Value} {a : Addr} {o : Obj} {args : List Value} {binds : List (Str × Value)}
    (hroom : A.depth < recursionLimit) (ho : s.heap.get? a = some o) (hdata : o.data = .func { docDef name params body scope pm cd doc with defaults := dV, kwdefaults := kV }) (hlim : s.heap.NoLimit) (hcd : s.heap.CodeRec cd name)
    (hbind : BindsTo s { docDef name params body scope pm cd doc with defaults := dV, kwdefaults := kV } ⟨args, []⟩ binds) (hloc : ∀ x ∈ binds, scope.names.lookup x.1 = some .local)
    (h : ∀ h₁, Fr s.heap s.heap.objs.size h₁ (fun x => binds.reverse.lookup x) →
      wpR (model prog w) (A.deeper (envOf name scope s.heap.objs.size a cd)) (execs body (envOf name scope s.heap.objs.size a cd)) (fun f s' => Q (match f with | .ret v => v | _ => .none) s')
        (fun e s' => wpAny (model prog w) (A.deeper (envOf name scope s.heap.objs.size a cd)) (leaving (envOf name scope s.heap.objs.size a cd) e) (fun _ s'' => E e s'') (fun e' s'' => E e' s'') s')
        { s with heap := h₁, toks := s.toks + binds.length })
    (hco : scope.isCoroutine = false := by rfl) (hgen : scope.isGenerator = false := by rfl) (hk : scope.kind = .function := by rfl) (hcell : ∀ x ∈ scope.names, x.2 ≠ .cell := by decide) :
    wpR (model prog w) A (call (.ref a) args) Q E s := by
  refine wpR_call (codeR_call_function hroom ho hdata hco hgen rfl hcd (hbind _ _ _ _ ?_))
  refine wpAny_newFunctionEnv hcell hloc (fun h₁ hns hsb => ⟨hlim.fresh _ hsb, codeR_func ?_⟩) hk
  exact h h₁ ⟨hns, fun b o e => hsb.extBut b o (Nat.ne_of_lt (Heap.lt_size e)) (Heap.get?_push_of_some _ e), Nat.le_refl _⟩
set_option maxHeartbeats 4000000 in
theorem law_holds : PySem.Challenge.rw_nm0110_01.Holds := by
  refine Mine.hd ?_
  intro w s₀ s₁ mg mb G Y fa o pm cd doc dV kV ho hd hcd hD hmg hg args vals as hpre hlay hrd hwl hlo
  have KX := kIn_of Y
  refine Ground.open G ?_
  intro T B D TE TW
  wrow_args hpre hlay hrd hwl hlo
  have he := Dflts.none hD rfl; subst he
  have he := Dflts.noKw hD; subst he
  clear Y G B D TE TW hD hmg
  (rename IntsAre _ _ => hI); (rename Heap.IsList _ _ _ => hL)
  rename_i ns z1 z2 z3 z4 z5 a1 a2 l us a3 z6 z7 z8 z9 z10 z11
  have hn : ns.length ≤ 63 := Int.ofNat_le.mp (Int.not_lt.mp (by assumption))
  refine wpR_mono (Q := fun v s' => v = .bool true ∧ ∃ h' tk, s' = { s₁ with heap := h', toks := tk } ∧ Kp s₁.heap h') (E := fun _ _ => False) ?main ?ret (fun _ _ x => x.elim)
  case ret =>
    rintro _ _ ⟨rfl, h', tk, rfl, k⟩
    refine GoodW.toG ⟨.inl ⟨_, .bool true, [], rfl, raisesW_false (by wrow_none_raised), .bool _, ?_, unshared_nil⟩, k, rfl, hg⟩
    wrow_post
  case main =>
    refine call_fullR (by decide) ho hd T.nolimit hcd (BindsTo.of_eq (binds := [(Str.ofString "script", .ref _)]) rfl) (locs rfl) fun h₁ F₁ => ?_
    clear hd
    have B₁ : Below callerA s₁.heap [] s₁.heap := below_caller _
    have N₁ : News s₁.heap s₁.heap.objs.size h₁ [] := fun _ hp => nomatch hp
    (rename (_ : Heap).get? fa = _ => ho); clear ho hcd hg
    clear z1 z2 z3 z4 z5 z6 z7 z8 z9 z10 z11
    refine wpR_execs_cons (wpR_of ?_)
    k_fold
    k_steps
    refine Hold.mk ?_
    (rename Fr _ _ _ _ => F2); (rename News _ _ _ _ => N2)
    refine gives_rows _ _ _ _ _ _ _ _ _ _ _ _ _ _ _ _ _ B₁ F2 KX T rfl (by ktr_room) (by ktr_units) ?_
    rintro r h2 tk2 k2 ⟨lr, rfl, hrows⟩
    obtain ⟨rs, hrs, N3, hR⟩ := News.more (F2.keeps k2) (N2.grown k2) (Supp.rows hrows)
    have F3 := F2.keeps k2
    clear F2 N2
    rw [List.nil_append] at N3
    k_steps
    refine wpR_execs_cons (wpR_of ?_)
    k_fold
    k_steps
    rename Addr => pA
    rename (∀ p ∈ rs, p.1 < pA) => offp
    refine wpR_execs_cons (wpR_of ?_)
    k_fold
    k_steps
    rename Addr => wA
    rename (_ < wA ∧ _) => offw
    refine wpR_execs_cons (wpR_of ?_)
    k_fold
    k_steps
    rename Addr => oA
    rename (_ < oA ∧ _) => offo
    refine wpR_execs_cons (wpR_of ?_)
    k_fold
    k_steps
    refine Hold.mk ?_
    (rename Fr _ _ _ _ => F9); (rename News _ _ _ _ => N9); (rename IsRange _ _ _ _ _ _ _ _ => R9)
    obtain ⟨ow1, ow2, ow3⟩ := offo
    obtain ⟨ow4, ow5⟩ := offw
    have hKM : KstMark := kstMark
    have hoff0 : OwnOff rs [oA, wA, pA] := fun p hp b hb => by
      rcases List.mem_cons.mp hb with rfl | hb
      · exact Nat.ne_of_lt (kst_ltOf ow3 p hp)
      · rcases List.mem_cons.mp hb with rfl | hb
        · exact Nat.ne_of_lt (kst_ltOf ow5 p hp)
        · rw [List.mem_singleton.mp hb]; exact Nat.ne_of_lt (offp p hp)
    refine' kst_range (σ := (List Value × Nat) × (List Value × Nat) × (List Value × Nat)) (fun c => (oA, W.listOf c.2.2.1.toArray c.2.2.2) :: (wA, W.listOf c.2.1.1.toArray c.2.1.2) :: (pA, W.listOf c.1.1.toArray c.1.2) :: rs) (fun _ => []) (fun _ => True) [Str.ofString "least", Str.ofString "point", Str.ofString "form"]
      (fun pre c => IntsAre c.1.1 (ptsOf ns pre.length) ∧ IntsAre c.2.1.1 (wholeOf ns pre.length) ∧ IntsAre c.2.2.1 (octsOf ns pre.length)) (([], 0), ([], 0), ([], 0))
      rfl R9 (by decide) (show Builtin.Range.rangeSize 0 9 1 = ((9 : Nat) : Int) by decide) F9 N9 trivial (by simp) ⟨.nil, .nil, .nil⟩ ?_ ?_
    · rintro ⟨⟨vp, np⟩, ⟨vw, nw⟩, ⟨vo, no⟩⟩ pre k tk3 u h3 tk4 own hk2 hlt hoff - ⟨hP1, hP2, hP3⟩ F3 N3
      dsimp only at hP1 hP2 hP3 F3 N3
      clear F9 N9 R9
      have N4 : News s₁.heap s₁.heap.objs.size h3 ((oA, W.listOf vo.toArray no) :: (wA, W.listOf vw.toArray nw) :: (pA, W.listOf vp.toArray np) :: (rs ++ own)) := N3
      clear N3
      have ho1 : ∀ p ∈ own, p.1 ≠ oA := fun p hp => hoff p hp _ (.head _)
      have ho2 : ∀ p ∈ own, p.1 ≠ wA := fun p hp => hoff p hp _ (.tail _ (.head _))
      have ho3 : ∀ p ∈ own, p.1 ≠ pA := fun p hp => hoff p hp _ (.tail _ (.tail _ (.head _)))
      have hr1 : ∀ p ∈ rs, p.1 ≠ oA := fun p hp => hoff0 p hp _ (.head _)
      have hr2 : ∀ p ∈ rs, p.1 ≠ wA := fun p hp => hoff0 p hp _ (.tail _ (.head _))
      have hr3 : ∀ p ∈ rs, p.1 ≠ pA := fun p hp => hoff0 p hp _ (.tail _ (.tail _ (.head _)))
      show wpAny _ _ _ _ _ _
      k_fold
      k_steps
      refine Hold.mk ?_
      have hj : pre.length < ROWS.length := hlt
      obtain ⟨ur, hrl, hrp⟩ := hR h3 F3.keep fun p hp => (N4 p (.tail _ (.tail _ (.tail _ (List.mem_append_left _ hp))))).1
      obtain ⟨v, hv, tt, ta, tl, rfl, htup, -⟩ := hrp.get (i := pre.length) (a := ROWS[pre.length]) (by simp [hj])
      obtain ⟨ls, hls⟩ : ∃ x, x = ROWS[pre.length].1 := ⟨_, rfl⟩
      rw [← hls] at htup
      have hlk : leastK pre.length = ls := by unfold leastK; rw [FinIter.getD_get _ _ _ hj, hls]
      have hlb : 0 ≤ ls ∧ ls ≤ 1114112 := by have := rows_small _ (List.getElem_mem hj); rw [hls]; exact this.2.2.2
      clear hls
      refine item_at hrl (by omega) (by omega) (by rw [show k.toNat = pre.length by omega]; exact hv) ?_ rfl
      k_steps
      refine Hold.mk ?_
      refine item_tupleT (l := [_, _]) (j := 0) htup (by decide) (by decide) rfl rfl ?_ rfl
      k_steps
      refine Hold.mk ?_
      (rename Fr _ _ _ _ => F5); (rename News _ _ _ _ => N5)
      refine gives_digit l ns k _ _ ⟨us, hL.at fun o e => F5.keep _ o e, hI⟩ hn (by omega) _ _ _ _ _ _ _ _ _ _ _ _ _ _ _ _ B₁ F5 KX T rfl (by ktr_room) (by ktr_units) ?_
      rintro r h5 tk5 k5 ⟨td, rfl⟩
      rw [show k.toNat = pre.length by omega]
      have F6 := F5.keeps k5
      have N6 := N5.grown k5
      clear F5 N5
      k_steps
      refine Hold.mk ?_
      refine meet_int (v := if ls < 55296 then ls else ls - 2048) ?_ fun tI tkI => ?_
      · (with_reducible refine IfExp_ ?_)
        k_steps
        · exact .mk ⟨_, _, by rw [if_pos (by assumption)], rfl⟩
        · exact .mk ⟨_, _, by rw [if_neg (by omega)], rfl⟩
      k_steps
      · skip
        refine Hold.mk ?_
        (rename Fr _ _ _ _ => F7); (rename News _ _ _ _ => N7)
        refine gives_point _ _ _ _ _ _ _ _ _ _ _ _ _ _ _ _ _ _ _ B₁ F7 KX T rfl (by ktr_room) (by ktr_units) ?_
        rintro r h6 tk6 k6 ⟨tp, rfl⟩
        have hpt : lawPoint (ns.getD pre.length 0 + (if leastK pre.length < 55296 then leastK pre.length else leastK pre.length - 2048)) = pointK ns pre.length := rfl
        rw [hlk] at hpt
        rw [hpt]
        clear hpt
        have hvp : ValidP (pointK ns pre.length) := lawPoint_valid _
        have hfk : lawForm (pointK ns pre.length) = formK ns pre.length := rfl
        have hfi := form_in ns pre.length
        have hsk : lawSpoiled (formK ns pre.length) (ns.getD (9 + pre.length) 0) = spoilK ns pre.length := rfl
        have hsi := spoiled_in (formK ns pre.length) (ns.getD (9 + pre.length) 0) hfi.2.1 hfi.2.2
        rw [hsk] at hsi
        have e1 := ptsOf_succ ns pre.length
        have e2 := wholeOf_succ ns pre.length
        have e3 := octsOf_succ ns pre.length
        have hlo := (octs_in ns pre.length).1
        have hlw := (whole_in ns pre.length).1
        have hlp := pts_len ns pre.length
        have hvl1 := hP1.length
        have hvl2 := hP2.length
        have hvl3 := hP3.length
        generalize pointK ns pre.length = pt at *
        have F8 := F7.keeps k6
        have N8 := N7.grown k6
        clear F7 N7
        obtain ⟨hv0, hv1, hv2⟩ := hvp
        k_steps
        refine Hold.mk ?_
        (rename Fr _ _ _ _ => F7); (rename News _ _ _ _ => N7)
        have hRow2 := hR _ F7.keep fun p hp => (N7 p (.tail _ (.tail _ (.tail _ (List.mem_append_left _ hp))))).1
        refine gives_form lr pt _ _ hRow2 hv0 hv1 _ _ _ _ _ _ _ _ _ _ _ _ _ _ _ _ B₁ F7 KX T rfl (by ktr_room) (by ktr_units) ?_
        rintro r h7 tk7 k7 ⟨fo, rfl, hfn, vf, nf, hfe, hfv⟩
        rw [hfk] at hfv
        have F9 := F7.keeps k7
        have N9 := N7.grown k7
        have hf1 : fo ≠ oA := fun q => by have := (N7 (oA, _) (.head _)).1; dsimp only at this hfn; rw [← q, hfn] at this; cases this
        have hf2 : fo ≠ wA := fun q => by have := (N7 (wA, _) (.tail _ (.head _))).1; dsimp only at this hfn; rw [← q, hfn] at this; cases this
        have hf3 : fo ≠ pA := fun q => by have := (N7 (pA, _) (.tail _ (.tail _ (.head _)))).1; dsimp only at this hfn; rw [← q, hfn] at this; cases this
        have NA : News s₁.heap s₁.heap.objs.size h7 ((fo, W.listOf vf.toArray nf) :: (oA, W.listOf vo.toArray no) :: (wA, W.listOf vw.toArray nw) :: (pA, W.listOf vp.toArray np) :: (rs ++ own)) := fun p hp => by
          rcases List.mem_cons.mp hp with rfl | hp
          · refine ⟨hfe, fun q => ?_, ?_⟩
            · obtain ⟨oL, _, _, eL, _⟩ := F7.ns
              dsimp only at q hfn
              rw [q] at hfn
              exact absurd (hfn.symm.trans eL) (by simp)
            · cases z : s₁.heap.get? fo with
              | none => rfl
              | some o => have := F7.keep _ _ z; dsimp only at hfn; rw [hfn] at this; cases this
          · exact N9 p hp
        clear F7 N7 N9
        k_steps
        refine Hold.mk ?_
        (rename Fr _ _ _ _ => F7); (rename News _ _ _ _ => N7)
        refine append_K F7 N7 (.tail hf3 (.tail (Nat.ne_of_gt ow2) (.tail (Nat.ne_of_gt ow4) (.head fun p hp => (List.mem_append.mp hp).elim (hr3 p) (ho3 p))))) (fun h8 F8 N8 => ?_) (by rw [List.size_toArray, PySem.sizeLine_eq]; omega)
        clear F7 N7
        rw [List.push_toArray] at N8
        k_steps
        refine Hold.mk ?_
        (rename Fr _ _ _ _ => F7); (rename News _ _ _ _ => N7)
        refine ext_at F7 N7 (N7 (fo, _) (.head _)).1 (by rw [hvl2, hfv.length]; omega) (fun k => .tail hf2 (.tail (Nat.ne_of_gt ow1) (.head fun p hp => by rcases List.mem_cons.mp hp with rfl | hp; exact Nat.ne_of_lt ow4; exact (List.mem_append.mp hp).elim (hr2 p) (ho2 p)))) (fun h9 nw' F8 N8 => ?_)
        clear F7 N7
        k_steps
        refine Hold.mk ?_
        (rename Fr _ _ _ _ => F7); (rename News _ _ _ _ => N7)
        refine gives_digit l ns (9 + k) _ _ ⟨us, hL.at fun o e => F7.keep _ o e, hI⟩ hn (by omega) _ _ _ _ _ _ _ _ _ _ _ _ _ _ _ _ B₁ F7 KX T rfl (by ktr_room) (by ktr_units) ?_
        rintro r h10 tk10 k10 ⟨td2, rfl⟩
        rw [show (9 + k).toNat = 9 + pre.length by omega]
        have F8 := F7.keeps k10
        have N8 := N7.grown k10
        clear F7 N7
        k_steps
        refine Hold.mk ?_
        (rename Fr _ _ _ _ => F7); (rename News _ _ _ _ => N7)
        refine gives_spoiled fo (formK ns pre.length) _ _ _ ⟨vf, nf, (N7 (fo, _) (.head _)).1, hfv⟩ hfi.1 hfi.2.1 _ _ _ _ _ _ _ _ _ _ _ _ _ _ _ _ B₁ F7 KX T rfl (by ktr_room) (by ktr_units) ?_
        rintro r h11 tk11 k11 ⟨so, rfl, -, vs, ns2, hse, hsv⟩
        rw [hsk] at hsv
        have F8 := F7.keeps k11
        have N8 := N7.grown k11
        clear F7 N7
        k_steps
        refine Hold.mk ?_
        (rename Fr _ _ _ _ => F7); (rename News _ _ _ _ => N7)
        refine ext_at F7 N7 hse (by rw [hvl3, hsv.length]; omega) (fun k => .tail hf1 (.head fun p hp => by
          rcases List.mem_cons.mp hp with rfl | hp
          · exact Nat.ne_of_lt ow1
          · rcases List.mem_cons.mp hp with rfl | hp
            · exact Nat.ne_of_lt ow2
            · exact (List.mem_append.mp hp).elim (hr1 p) (ho1 p))) (fun h12 no' F8 N8 => ?_)
        clear F7 N7
        k_steps
        (rename Fr _ _ _ _ => F9); (rename News _ _ _ _ => N9)
        refine kst_end ((vp ++ [Value.int pt tp], np + 1), (vw ++ vf, nw'), (vo ++ vs, no')) F9 N9 (fun q hq => .tail _ (List.mem_append_left own hq)) (fun q hq => .tail _ (List.mem_append_right (_ :: _ :: _ :: rs) hq)) rfl trivial (by simp)
          (by intro z q1 _ q3; simp only [List.contains_cons, List.contains_nil, Bool.or_false, Bool.or_eq_false_iff, beq_eq_false_iff_ne, ne_eq] at q3; simp [kstB, q1, q3]) ?_
        rw [List.length_append, List.length_singleton, e1, e2, e3]
        exact ⟨hP1.append (.cons _ _ .nil), hP2.append hfv, hP3.append hsv⟩
    · rintro ⟨⟨vp, np⟩, ⟨vw, nw⟩, ⟨vo, no⟩⟩ u h3 tk4 - ⟨hP1, hP2, hP3⟩ F3 N3
      rw [rangeKs_length] at hP1 hP2 hP3
      dsimp only at hP1 hP2 hP3 F3 N3
      clear F9 N9 R9
      have hvl1 := hP1.length
      have hvl2 := hP2.length
      have hvl3 := hP3.length
      have hoi := octs_in ns 9
      have hwi := whole_in ns 9
      have hpl := pts_len ns 9
      refine wpR_execs_cons (wpR_of ?_)
      k_fold
      k_steps
      have hpb : ∀ p ∈ ptsOf ns 9, 0 ≤ p ∧ p < 1114112 := fun p hp => by
        obtain ⟨k, _, rfl⟩ := List.mem_map.mp hp
        have hv : ValidP (pointK ns k) := lawPoint_valid _
        exact ⟨hv.1, hv.2.1⟩
      refine Hold.mk ?_
      (rename Fr _ _ _ _ => F4); (rename News _ _ _ _ => N4)
      refine LCg.ListComp_U (F₀ := F4) (by with_unfolding_all rfl) (by decide) (by rfl) (by decide) (by rfl) ?_
      k_steps
      refine LCg.CompSrc.ledger rfl F4 N4 (.tail _ (.tail _ (.head _))) (by rw [List.size_toArray, PySem.sizeLine_eq]; omega) fun g' => ?_
      refine kct_list (fun k => (⟨#[k.toNat]⟩ : Str)) hP1 (fun k t I oI C oC D m₂ ys h tk E' hk hC hx F N off ne mk => ?_) ?_
      · have hpk := hpb k hk
        clear F4 N4
        k_steps
        exact ⟨h, _, _, rfl, F, N, off, .inr ⟨_, .tail _ (.tail _ (.head _)), rfl, _, rfl⟩, rfl, _, rfl⟩
      · unfold KPfDone
        intro ys hc _ D h5 tk5 F5 N5 off5
        clear F4 N4
        k_steps
        (rename Fr _ _ _ _ => F6); (rename News _ _ _ _ => N6)
        have hjt : Txt.join (Str.ofString "") (List.map (fun a => (⟨#[a.toNat]⟩ : Str)) (ptsOf ns 9)) = strOf (ptsN ns) := by
          rw [← join_signs]; unfold ptsN; rw [List.map_map]; rfl
        rw [hjt] at F6
        have N7 : News s₁.heap s₁.heap.objs.size _ ((oA, W.listOf vo.toArray no) :: (wA, W.listOf vw.toArray nw) :: (pA, W.listOf vp.toArray np) :: rs) := fun p hp => N6 p (.tail _ hp)
        clear F5 N5 N6 hjt
        have hwl : (wholeOf ns 9).length ≤ 36 := by omega
        have hwr : KBa.In (wholeOf ns 9) := hwi.2
        have hol : (octsOf ns 9).length ≤ 45 := by omega
        have hor : KBa.In (octsOf ns 9) := hoi.2
        obtain ⟨hw1, hw2⟩ := whole_text ns
        have hpv : ∀ c ∈ ptsN ns, c < 1114112 ∧ ¬ (55296 ≤ c ∧ c < 57344) := fun c hc => by
          obtain ⟨q0, q1, q2⟩ := ptsN_valid ns c hc
          omega
        have hpn : (ptsN ns).length = 9 := by unfold ptsN; rw [List.length_map, hpl]
        refine wpR_execs_cons (wpR_If (wpR_isTrue_or (wpR_isTrue_Compare1 (wpR_Call_Name ?_))))
        k_steps
        refine call_fnR (K := Mine.hd.heap_39 w.params) (by k_is) ?_
        k_steps
        refine gives_utf8 (ptsN ns) _ _ hpv (by omega) _ _ _ _ _ _ _ _ _ _ _ _ _ _ _ _ B₁ F6 KX T rfl (by ktr_room) (by ktr_units) ?_
        rintro r h6 tk6 k6 ⟨tb, rfl⟩
        rw [hw1]
        have F8 := F6.keeps k6
        have N8 := N7.grown k6
        clear F6 N7
        k_steps
        · exfalso; (rename (_ != _) = true => q9); rw [bne_self_eq_false] at q9; cases q9
        (rename Fr _ _ _ _ => F6); (rename News _ _ _ _ => N6)
        clear F8 N8
        refine wpR_isTrue_or (wpR_of ?_)
        k_steps
        refine Hold.mk ?_
        (rename Fr _ _ _ _ => F7); (rename News _ _ _ _ => N7)
        have eT : textGo (KBw.bInts (byteArr (wholeOf ns 9))) (byteArr (wholeOf ns 9)).size 0 [] = (ptsN ns, none) := by rw [KBa.ints_make hwr, byteArr_size, hw2]
        have GT := fun tb s' => gives_text (w := w) (mean := ExcName.means s₀.heap) (mg := mg) (mb := mb) (byteArr (wholeOf ns 9)) tb 0 280 [.bytes (byteArr (wholeOf ns 9)) tb] (.inr ⟨rfl, rfl, rfl⟩) s' (by rw [byteArr_size]; omega)
        rw [eT] at GT
        refine GT _ _ _ _ _ _ _ _ _ _ _ _ _ _ _ _ _ _ B₁ F7 KX T rfl (by ktr_room) (by ktr_units) ?ret ?exc
        case exc =>
          rintro e d mA h' tk' - ⟨i, hi, -⟩
          cases hi
        case ret =>
          rintro r h7 tk7 k7 ⟨-, t7, rfl⟩
          have F8 := F7.keeps k7
          have N8 := N7.grown k7
          clear F7 N7 GT
          dsimp only
          k_steps
          · exfalso; (rename (_ != _) = true => q9); rw [bne_self_eq_false] at q9; cases q9
          (rename Fr _ _ _ _ => F6); (rename News _ _ _ _ => N6)
          refine wpR_isTrue_or_nil ?_
          rw [if_neg (by decide)]
          refine wpR_execs_nil ?_
          dsimp only
          refine wpR_execs_cons (wpR_of ?_)
          k_fold
          k_steps
          refine Hold.mk ?_
          (rename Fr _ _ _ _ => F7); (rename News _ _ _ _ => N7)
          refine gives_digit l ns 18 _ _ ⟨us, hL.at fun o e => F7.keep _ o e, hI⟩ hn (by omega) _ _ _ _ _ _ _ _ _ _ _ _ _ _ _ _ B₁ F7 KX T rfl (by ktr_room) (by ktr_units) ?_
          rintro r h8 tk8 k8 ⟨td, rfl⟩
          have F8 := F7.keeps k8
          have N8 := N7.grown k8
          clear F7 N7
          generalize ns.getD (Int.toNat 18) 0 = bg
          k_steps
          refine wpR_execs_cons (wpR_of ?_)
          k_fold
          k_steps
          refine Hold.mk ?_
          (rename Fr _ _ _ _ => F7); (rename News _ _ _ _ => N7)
          refine gives_told oA (octsOf ns 9) bg _ _ ⟨vo, N7.isList (.head _), hP3⟩ hor (by omega) _ _ _ _ _ _ _ _ _ _ _ _ _ _ _ _ B₁ F7 KX T KX T rfl (by ktr_room) (by ktr_units) ?_
          rintro r h9 tk9 st ⟨tt, rfl, qa, qb, htold⟩
          have F8 := Fr.stp F7 st
          have N8 := News.stp N7 st
          clear F7 N7
          obtain ⟨ts, hts, N9, hTu⟩ := News.more F8 N8 (Supp.tup htold)
          clear N8 htold hts
          k_steps
          refine wpR_execs_cons (wpR_of ?_)
          k_fold
          k_steps
          refine Hold.mk ?_
          (rename Fr _ _ _ _ => F7); (rename News _ _ _ _ => N7)
          have hRow3 := hR _ F7.keep fun p hp => (N7 p (List.mem_append_left ts (.tail _ (.tail _ (.tail _ hp))))).1
          refine gives_read lr oA (octsOf ns 9) _ hRow3 ⟨vo, (N7.isList (.head _)), hP3⟩ hor (by omega) _ _ _ _ _ _ _ _ _ _ _ _ _ _ _ _ B₁ F7 KX T rfl (by ktr_room) (by ktr_units) ?_
          rintro r h10 tk10 k10 ⟨rt, ra, rb, rfl, hrt⟩
          have F8 := F7.keeps k10
          have N8 := N7.grown k10
          clear F7 N7
          obtain ⟨hat, hfl, hfv, htg⟩ := read_text (octsOf ns 9) hor (octsOf ns 9).length 0 [] (by omega) (by omega) rfl (fun c hc => nomatch hc)
          generalize readGo (octsOf ns 9) (octsOf ns 9).length 0 [] = rd at *
          rw [htg] at hTu
          k_steps
          refine wpR_execs_cons (wpR_If (wpR_of ?_))
          k_steps
          · refine wpR_execs_cons (wpR_Return (wpR_of ?_))
            k_steps
            refine Hold.mk ?_
            (rename Fr _ _ _ _ => F7); (rename News _ _ _ _ => N7)
            have h1 := hTu _ F7.keep fun p hp => (N7 p (.tail _ (List.mem_append_right _ hp))).1
            rw [if_neg (by omega)] at h1
            refine eq_si (by decide +kernel) h1 (tupOf N7 (.head _)) (by ke_room) ?_
            exact ⟨rfl, _, _, rfl, F7.keep⟩
          · refine wpR_execs_nil ?_
            dsimp only
            refine wpR_execs_cons (wpR_Return (wpR_And2 ?_))
            k_steps
            refine Hold.mk ?_
            (rename Fr _ _ _ _ => F7); (rename News _ _ _ _ => N7)
            have hrl : rd.2 = (octsOf ns 9).length := by omega
            have h1 := hTu _ F7.keep fun p hp => (N7 p (.tail _ (List.mem_append_right _ hp))).1
            rw [if_pos hrl] at h1
            refine eq_ss (by decide +kernel) (strOf_ok hfv) h1 (tupOf N7 (.head _)) (by ke_room) ?_
            k_steps
            refine wpR_Compare1 (wpR_Call_Name ?_)
            k_steps
            refine call_fnR (K := Mine.hd.heap_39 w.params) (by k_is) ?_
            k_steps
            (rename Fr _ _ _ _ => F7); (rename News _ _ _ _ => N7)
            have hfl2 : flat rd.1 = octsOf ns 9 := by rw [hfl, hrl, List.take_length]
            have hrn : rd.1.length ≤ 45 := by have := flat_len rd.1; rw [hfl2] at this; omega
            have hfv2 : ∀ c ∈ rd.1, c < 1114112 ∧ ¬ (55296 ≤ c ∧ c < 57344) := fun c hc => by
              obtain ⟨q0, q1, q2⟩ := hfv c hc
              omega
            refine gives_utf8 rd.1 _ _ hfv2 (by omega) _ _ _ _ _ _ _ _ _ _ _ _ _ _ _ _ B₁ F7 KX T rfl (by ktr_room) (by ktr_units) ?_
            rintro r h12 tk12 k12 ⟨tb, rfl⟩
            rw [encs_flat, hfl2]
            have F8 := F7.keeps k12
            have N8 := N7.grown k12
            clear F7 N7
            k_steps
            rw [beq_self_eq_true]
end Mine
end
set_option maxRecDepth 100000 in
theorem PySem.Challenge.cw_nm0110_01_holds : PySem.Challenge.rw_nm0110_01.Holds := by
  exact Mine.law_holds
