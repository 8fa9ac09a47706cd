import PyProof.Rows.All
import Wide.All
import OpenK.AllK
import Wide.FinOn
import PySem.Challenge.RW_tg0040_01
set_option Elab.async false
set_option compiler.extract_closed false
section
open PySem PySem.W PyProof.Rows
local macro_rules | `(tactic| omega) => `(tactic| k_extra "my omega")
theorem ln_om : True := by
  k_with "my omega" => first | with_reducible exact Nat.le_of_ble_eq_true rfl | (law_clear; lia)
  trivial
section
open PySem PySem.W PyProof.Rows PySem.Calls
set_option Elab.async false
namespace Mine
set_option maxRecDepth 100000

/-- a bytearray object -/
abbrev baO (l : List UInt8) : Obj := { cls := .type "bytearray", data := .bytearray l.toArray 0 }

section
variable {prog : Program} {w : World} {A A₀ : Around} {s : Shared} {K : Frag} {L : Addr} {h₀ base : Heap} {m mg mb : Str → Option Value} {news : List (Addr × Obj)} {p : Program} {loose : List Str} {mean : ExcName → Option Value}

/-- what a callee leaves to its caller: its frame over the base g still stands; then R -/
def BackW (h₀ : Heap) (L : Addr) (m : Str → Option Value) (g : Heap) (R : Result → Shared → Prop) (v : Value) (s' : Shared) : Prop :=
  ∃ L' m', Fr g L' s'.heap m' ∧ (Fr h₀ L s'.heap m → (∀ b o, g.get? b = some o → s'.heap.get? b = some o) → R (.ok (.ret v)) s')

theorem backW_ {g : Heap} {L' : Addr} {m' : Str → Option Value} {R : Result → Shared → Prop} {v : Value} {s' : Shared} (F' : Fr g L' s'.heap m')
    (k : Fr h₀ L s'.heap m → (∀ b o, g.get? b = some o → s'.heap.get? b = some o) → R (.ok (.ret v)) s') : BackW h₀ L m g R v s' := ⟨L', m', F', k⟩

theorem code_defW {env : Env} {outer : List Env} {R : Result → Shared → Prop} {name qual : Str} {params : Arguments} {body : List Stmt} {scope : Scope} {dV kV doc pm cdv ct oc : Value} {an od : Option Addr} {osl : Array (Option Value)} {f : Addr} {args : Args} {binds : List (Str × Value)}
    (B : Below A₀ base outer h₀) (F : Fr h₀ L s.heap m) (X₀ : K.In h₀) (N : News h₀ L s.heap news) (T : Top p loose mean mg mb h₀) (hA : A.frames = some (env :: outer)) (hf : env.frame = some L) (hke : env.scope.kind = .function)
    (ho : K.lookup f = some ⟨oc, od, .func (fnOf name qual params body scope dV kV doc pm an cdv ct), osl⟩) (hcd : codeIn K cdv qual = true) (hroom : A.depth < recursionLimit)
    (hbind : BindsTo s (fnOf name qual params body scope dV kV doc pm an cdv ct) args binds) (hloc : ∀ y ∈ binds, scope.names.lookup y.1 = some .local)
    (h : ∀ g L' h₁, Fr g L' h₁ (fun y => binds.reverse.lookup y) → News g L' h₁ news → Below A base (env :: outer) g → K.In g → Top p loose mean mg mb g → (∀ b o, s.heap.get? b = some o → b ∉ news.map (·.1) → g.get? b = some o) →
      wpAny (model prog w) (A.deeper (envOf qual scope L' f cdv)) (execs body (envOf qual scope L' f cdv))
        (fun fl s' => BackW h₀ L m g R (match fl with | .ret v => v | _ => .none) s')
        (fun e s' => wpAny (model prog w) (A.deeper (envOf qual scope L' f cdv)) (leaving (envOf qual scope L' f cdv) e) (fun _ s'' => R (.error e) s'') (fun e' s'' => R (.error e') s'') s')
        { s with heap := h₁, toks := s.toks + binds.length })
    (hco : scope.isCoroutine = false) (hgen : scope.isGenerator = false) (hk : scope.kind = .function)
    (hcell : ∀ x ∈ scope.names, x.2 ≠ .cell) : codeAny (model prog w) A (.call (.ref f) args) R s := by
  have ho' : s.heap.get? f = _ := (X₀.keeps F.keep) _ _ ho
  have hcd' : s.heap.CodeRec cdv qual := codeRec_of (X₀.keeps F.keep) hcd
  obtain ⟨FG, BG, st, lv⟩ := groundX (R := R) B F N hA hf hke
  refine codeAny_call_def (fd := fnX name qual params body scope [] dV kV doc pm an cdv ct) (body := body) (binds := binds) hroom ho' rfl (T.nolimit.keeps F.keep) hcd' rfl hbind hcell hloc (fun h₁ hns hk₁ => ?_) hco hgen hk
  refine wpAny_mono (h _ s.heap.objs.size h₁ ⟨hns, fun b o e => hk₁ b o (of_hideAll _ e), Nat.le_of_eq (hideAll_size _ _)⟩
    (fun p hp => ⟨hk₁ _ _ (N p hp).1, Nat.ne_of_lt (Heap.lt_size (N p hp).1), hideAll_none _ (List.mem_map_of_mem hp)⟩) BG (X₀.keeps st) (T.keeps st) (fun b o e hn => hideAll_get _ e hn)) (fun fl s' hl => ?_) fun _ _ y => y
  obtain ⟨L₂, m₂, F₂, k⟩ := hl
  exact lv _ _ ⟨L₂, m₂, [], F₂, News.nil, fun F₁ _ => k F₁ F₂.keep⟩

end
end Mine
end
section
open PySem PySem.W PyProof.Rows PySem.Calls
set_option Elab.async false
namespace Mine
set_option maxRecDepth 100000

/-! A logic for runs on a stack where no built-in holds a bytearray's buffer -/
def holderIds : List String := ["bytearray.__contains__", "bytearray.__mod__", "bytearray.__rmod__", "_struct.pack_into.held", "bytearray.find.held"] ++ Builtin.Bytes.decodersThatHold
def holder : Code → Bool
  | .builtin id _ => holderIds.contains id
  | _ => false
def ClB (l : List (Code × Pos)) : Prop := ∀ x ∈ l, holder x.1 = false
def Cl (Γ : Ctx) : Prop := holder Γ.code = false ∧ ClB Γ.below
theorem Cl.enter {Γ : Ctx} (h : Cl Γ) (c : Code) (hd : Option Value) (p : Pos) : ClB (Γ.enter c hd p).below := by
  intro x hx
  rcases List.mem_cons.mp hx with rfl | hx
  · exact h.1
  · exact h.2 x hx

abbrev nE : Value → Shared → Prop := fun _ _ => False

def wpC {α : Type} (M : Model) (A : Around) (t : Sem α) (Q : α → Shared → Prop) (s : Shared) : Prop :=
  ∀ Γ p, Γ.In A → Cl Γ → Sem.wp M Γ t (fun a _ s' => Q a s') (fun _ _ _ => False) p s
def codeC (M : Model) (A : Around) (c : Code) (R : Flow → Shared → Prop) (s : Shared) : Prop :=
  ∀ Γ p, Γ.code = c → Γ.Below A → ClB Γ.below → wpCode M Γ (fun r s' => match r with | .ok f => R f s' | .error _ => False) p s

section
variable {α β : Type} {M : Model} {A : Around} {s : Shared}
theorem c_any {t : Sem α} {Q : α → Shared → Prop} (h : wpAny M A t Q nE s) : wpC M A t Q s := fun Γ p hΓ _ => h Γ p hΓ
theorem c_mono {t : Sem α} {Q Q' : α → Shared → Prop} (h : wpC M A t Q s) (hQ : ∀ a s, Q a s → Q' a s) : wpC M A t Q' s :=
  fun Γ p hΓ hc => Sem.wp_mono M Γ t (fun a _ s => hQ a s) (fun _ _ _ h => h) p s (h Γ p hΓ hc)
theorem c_pure {a : α} {Q : α → Shared → Prop} (h : Q a s) : wpC M A (pure a) Q s := fun _ _ _ _ => h
theorem c_bind {m : Sem α} {f : α → Sem β} {Q : β → Shared → Prop} (h : wpC M A m (fun a s' => wpC M A (f a) Q s') s) :
    wpC M A (m >>= f) Q s := fun Γ p hΓ hc => by
  rw [Sem.wp_bind']
  exact Sem.wp_mono M Γ m (fun a p' s' h' => h' Γ p' hΓ hc) (fun _ _ _ h' => h') p s (h Γ p hΓ hc)
theorem c_bindAny {m : Sem α} {f : α → Sem β} {Q : β → Shared → Prop} (h : wpAny M A m (fun a s' => wpC M A (f a) Q s') nE s) :
    wpC M A (m >>= f) Q s := c_bind (c_any h)
theorem c_standAt {pos : Pos} {f : Unit → Sem β} {Q : β → Shared → Prop} (h : wpC M A (f ()) Q s) : wpC M A (standAt pos >>= f) Q s :=
  c_bindAny (wpAny_standAt h)
theorem c_holding {vs : List Value} {m : Sem α} {Q : α → Shared → Prop} (h : wpC M A m Q s) : wpC M A (holding vs m) Q s :=
  fun Γ p hΓ hc => by rw [Sem.wp_holding]; exact h Γ p hΓ hc
theorem c_keep {vs : List Value} {m : Sem α} {Q : α → Shared → Prop} (h : wpC M A m Q s) : wpC M A (m.keep vs) Q s :=
  fun Γ p hΓ hc => by rw [Sem.wp_keep]; exact h Γ p hΓ hc
theorem c_onRaise {m : Sem α} {k : Value → Sem Unit} {Q : α → Shared → Prop} (h : wpC M A m Q s) : wpC M A (m.onRaise k) Q s := fun Γ p hΓ hc => by
  rw [Sem.wp_onRaise]
  exact Sem.wp_mono M Γ m (fun _ _ _ h' => h') (fun _ _ _ h' => h'.elim) p s (h Γ p hΓ hc)
theorem c_attempt {m : Sem α} {Q : Except Value α → Shared → Prop} (h : wpC M A m (fun a => Q (.ok a)) s) : wpC M A m.attempt Q s := fun Γ p hΓ hc => by
  rw [Sem.wp_attempt]
  exact Sem.wp_mono M Γ m (fun _ _ _ h' => h') (fun _ _ _ h' => h'.elim) p s (h Γ p hΓ hc)
theorem codeC_of_any {c : Code} {R : Flow → Shared → Prop} (h : codeAny M A c (fun r s' => match r with | .ok f => R f s' | .error _ => False) s) : codeC M A c R s := fun Γ p hc hb _ => h Γ p hc hb
theorem codeC_mono {c : Code} {R R' : Flow → Shared → Prop} (h : codeC M A c R s) (hR : ∀ r s, R r s → R' r s) : codeC M A c R' s :=
  fun Γ p hc hb hl => wpCode_mono (fun r s h => by cases r with | ok f => exact hR f s h | error e => exact h) (h Γ p hc hb hl)

theorem c_run {c : Code} {h : Option Value} {Q : Flow → Shared → Prop} (hc : codeC M (A.mark h) c Q s) (hnb : h ≠ some byPass := by intro x; cases x) :
    wpC M A (run c h) Q s := fun Γ p hΓ hl => by
  rw [Sem.wp_run]
  refine wpCode_mono (fun r s h => ?_) (hc _ p rfl (hΓ.enter c h p hnb) (hl.enter c h p))
  cases r with
  | ok f => exact h
  | error e => exact h
theorem c_runValue {c : Code} {Q : Value → Shared → Prop} (hc : codeC M A c (fun f s' => ∃ v, f = .ret v ∧ Q v s') s) : wpC M A (runValue c) Q s := fun Γ p hΓ hl => by
  rw [Sem.wp_runValue]
  refine wpCode_mono (fun r s h => ?_) (hc _ p rfl (hΓ.enter c none p (by intro x; cases x)) (hl.enter c none p))
  cases r with
  | ok f => obtain ⟨v, rfl, hv⟩ := h; exact hv
  | error e => exact h
theorem c_call {f : Value} {pos : List Value} {kw : List (Str × Value)} {Q : Value → Shared → Prop}
    (hc : codeC M A (.call f ⟨pos, kw⟩) (fun f s' => ∃ v, f = .ret v ∧ Q v s') s) : wpC M A (call f pos kw) Q s := c_runValue hc

theorem codeC_of_tree {c : Code} {R : Flow → Shared → Prop} (hh : holder c = false)
    (h : wpC M (A.under c) (M.den c) (fun fin s' => match fin with | .done f => R f s' | .again c' => c'.quiet = true ∧ codeC M A c' R s') s) : codeC M A c R s := fun Γ p hc hΓ hl => by
  rw [wpCode_iff_wp, hc]
  refine Sem.wp_mono M Γ _ (fun fin p' s' h' => ?_) (fun _ _ _ h' => h'.elim) p s (h Γ p (hc ▸ hΓ.in) ⟨by rw [hc]; exact hh, hl⟩)
  cases fin with
  | done f => exact h'
  | again c' => exact ⟨h'.1, h'.2 (Γ.goto c') p' rfl (hΓ.goto c') hl⟩
end

section
variable {M : Model} {A : Around} {s : Shared}
open Builtin.Bytes in
theorem c_exported {v : Value} {Q : Bool → Shared → Prop} (h : Q false s) : wpC M A (exported v) Q s := fun Γ p _ hc => by
  have key : ∀ (f : Code × Pos → Bool), (∀ x : Code × Pos, holder x.1 = false → f x = false) → ((Γ.code, p) :: Γ.below).any f = false := by
    intro f hf
    rw [List.any_eq_false]
    intro x hx
    rcases List.mem_cons.mp hx with rfl | hx
    · rw [hf _ hc.1]; exact Bool.false_ne_true
    · rw [hf _ (hc.2 x hx)]; exact Bool.false_ne_true
  unfold exported
  rw [Sem.wp_bind']
  show Q (((Γ.code, p) :: Γ.below).any _) s
  rw [key _ ?_]
  · exact h
  · rintro ⟨c, q⟩ hx
    cases c with
    | builtin id args =>
      have h : ∀ y ∈ holderIds, id ≠ y := fun y hy e => by
        subst e
        have hx' : holderIds.contains id = false := hx
        rw [List.contains_eq_mem, decide_eq_false_iff_not] at hx'
        exact hx' hy
      have h1 : id ≠ "bytearray.__contains__" := h _ (.head _)
      have h2 : id ≠ "bytearray.__mod__" := h _ (.tail _ (.head _))
      have h3 : id ≠ "bytearray.__rmod__" := h _ (.tail _ (.tail _ (.head _)))
      have h4 : id ≠ "_struct.pack_into.held" := h _ (.tail _ (.tail _ (.tail _ (.head _))))
      have h5 : id ≠ "bytearray.find.held" := h _ (.tail _ (.tail _ (.tail _ (.tail _ (.head _)))))
      have h6 : decodersThatHold.contains id = false := by
        rw [List.contains_eq_mem, decide_eq_false_iff_not]
        exact fun hm => h id (List.mem_append_right _ hm) rfl
      clear h hx hc
      obtain ⟨ps, kw⟩ := args
      delta exported.match_1
      refine (dif_neg h1).trans ((dif_neg h2).trans ((dif_neg h3).trans ((dif_neg h4).trans ((dif_neg h5).trans ?_))))
      cases ps with
      | nil => rfl
      | cons w r =>
        show (_ && decodersThatHold.contains id) = false
        rw [h6, Bool.and_false]
    | _ => rfl
end
end Mine
end
section
open PySem PySem.W PyProof.Rows PySem.Calls
set_option Elab.async false
namespace Mine
set_option maxRecDepth 100000

/-- what is to be shown, under a name -/
theorem hide {P : Prop} (h : ∀ q : Prop, (P → q) → q) : P := h P id
/-- the caller's own context -/
abbrev cCtx : Ctx := ⟨.builtin "claim.caller" {}, none, none, [], none⟩
theorem cCtx_clean : Cl cCtx := ⟨by decide +kernel, fun _ h => nomatch h⟩

theorem ends_clean {prog : Program} {w : World} {t : Sem Fin} {s : Shared} {R : Flow → Shared → Prop} (hreg : s.asleep)
    (h : wpC (model prog w) callerA t (fun fin s' => ∃ f, fin = .done f ∧ R f s' ∧ leftWithCleanup s'.gens = false) s) :
    ∃ n f s' s'', runN (denote table) prog w n s ⟨t, .builtin "claim.caller" {}, default, []⟩ = .halted (outcomeOf (.ok f)) s' ∧
      schedN (denote table) prog w n (.single s ⟨t, .builtin "claim.caller" {}, default, []⟩) = .halted (outcomeOf (.ok f)) s' ∧ s'.forget = s''.forget ∧ R f s'' := by
  have g := h cCtx default caller_in cCtx_clean
  have h2 : Sem.wp (model prog w) cCtx t (Sem.finPost (model prog w) cCtx fun r s' => (∃ f, r = .ok f ∧ R f s') ∧ leftWithCleanup s'.gens = false) (fun e _ s' => (∃ f, Except.error e = .ok f ∧ R f s') ∧ leftWithCleanup s'.gens = false) default s := by
    refine Sem.wp_mono _ _ _ (fun fin p' s' hq => ?_) (fun _ _ _ x => x.elim) _ _ g
    obtain ⟨f, rfl, a, b⟩ := hq
    exact ⟨⟨f, rfl, a⟩, b⟩
  obtain ⟨n, r, s₁, s₂, hs, hn, hfo, f, rfl, hR⟩ := wp_halts_full (M := model prog w) (R := fun r s' => ∃ f, r = .ok f ∧ R f s') hreg h2
  exact ⟨n, f, s₂, s₁, hn, hs, hfo, hR⟩

/-- what the walk of law owes, in the clean logic -/
abbrev WalkC (q : Program) (loose : List Str) (XP : (Str → Option Value) → Heap → Prop) (YP : World → Heap → Prop) (r : RowW) (d : DefRec) (kwd : List (Str × Expr)) : Prop :=
  ∀ (w : World) (s₀ s₁ : Shared) (mg mb : Str → Option Value), Ground q loose r.records XP w s₀ mg mb s₁.heap → YP w s₁.heap → ∀ (a : Addr) (o : Obj) (pm cd doc dV kV : Value), s₁.heap.get? a = some o →
    o.data = .func { docDef d.name d.params d.body d.scope pm cd doc with defaults := dV, kwdefaults := kV } → s₁.heap.CodeRec cd d.name → Dflts mg s₁.heap d.params kwd dV kV → mg d.name = some (.ref a) → s₁.gens = #[] →
    ∀ (args : List WData) (vals : List Value) (as : List Addr), r.claim.pre args = true → WData.layableAll args = true → ReadsAllW r.records (classAt s₀.heap) s₁.heap vals args as → WellAll w.params s₁.heap vals args → (∀ a ∈ as, (a == sysModules) = false) →
      wpC (model r.prog w) callerA (call (.ref a) vals) (fun v s' => GoodWG r.claim (classAt s₀.heap) (ExcName.means s₀.heap) args s₁ (.ok (.ret v)) s') s₁

theorem holds_clean {r : OpenRow} {q : Program} {loose : List Str} {Xt : Shared → Bool} {XP : (Str → Option Value) → Heap → Prop} {α : Type} {Yf : Shared → α} {Ya : World → α} {YP : World → Heap → Prop} {d : DefRec} {kwd : List (Str × Expr)} {N : Nat}
    (left : LeftO r.prog q loose Xt Yf Ya N) (hY : ∀ w s, Yf s = Ya w → YP w s.heap) (hYk : ∀ w h h', YP w h → (∀ b o, h.get? b = some o → h'.get? b = some o) → YP w h')
    (hX : ∀ s, Xt s = true → XP (s.heap.nsMap mainGlobals) s.heap) (hXk : ∀ mg h h', XP mg h → (∀ b o, h.get? b = some o → h'.get? b = some o) → XP mg h')
    (hdef : defOf q r.name = some (d, kwd)) (hp : r.prog.theDef r.name = some (d.params, d.body, d.scope)) (hk : kwWritten? d.params.kwonlyargs d.params.kw_defaults = some kwd) (hRf : ∀ s, Xt s = true → RecFacts r.records s.heap) (hwr : (!r.writes || r.records.isEmpty) = true)
    (k1 : r.wellSaid = true) (ok : (chainsOk q && opensWell r.prog && (frees r.toRowW && r.within.isEmpty)) = true) (hb : r.prog.bare) (hw : r.toRowW.promised)
    (walk : WalkC q loose XP YP r.toRowW d kwd) : r.Holds := by
  obtain ⟨ok, k5⟩ := Bool.and_eq_true_iff.mp ok
  obtain ⟨hch, o1⟩ := Bool.and_eq_true_iff.mp ok
  obtain ⟨k5, k6⟩ := Bool.and_eq_true_iff.mp k5
  obtain ⟨hsame, hu, ha, hap, hm⟩ := frees_parts k5
  have hi := ident_freeW hu ha hap
  have hwi : r.claim.within = [] := List.isEmpty_iff.mp k6
  refine ⟨k1, hw, ⟨⟨hb, o1, by show r.makers.map _ = []; rw [hm]; rfl⟩, hw.witness, fun w => ⟨(left.behind hX hch w).1, fun t ht => ?_⟩⟩⟩
  refine hide fun q9 hq9 => ?_
  obtain ⟨s₀, hf, hg0, s, hT, hz, hgens, hg, ⟨GT, GB, GD, GTE, GTD, GW, ⟨GX, RF⟩, Gc, Gh, Ga, Go, GK⟩, y⟩ := (left.behind (XP := fun mg h => XP mg h ∧ RecFacts r.records h) (fun s hs => ⟨hX s hs, hRf s hs⟩) hch w).2 t ht
  have G0 : Ground q loose [] XP w s (s.heap.nsMap mainGlobals) (s.heap.nsMap builtinsNs) s.heap := ⟨GT, GB, GD, GTE, GTD, GW, GX, Gc, Gh, Ga, Go, GK⟩
  have hgens : s.gens = #[] := Array.eq_empty_of_size_eq_zero (beq_iff_eq.mp hgens)
  refine hq9 ⟨s₀, hf, hg0, s, hT, fun n hn => ?_, RF.1, RF.2.1, fun args hpre hlay ord hord => ?_⟩
  · obtain rfl : n = r.name := by split at hn <;> simp_all
    exact pinned_of_view hg G0 hdef hp hk
  have G : Ground q loose r.records XP w s _ _ s.heap := RF.ground G0
  refine hide fun q8 hq8 => ?_
  obtain ⟨⟨vs, s₁⟩, hlaid⟩ := Option.isSome_iff_exists.mp (layAllW_isSome (P := w.params) (ord := ord) G.has args r.args s (pre_splitW hpre).1)
  have keeps := layAllW_keeps _ _ _ hlaid
  have hal := layAllW_rest _ _ _ hlaid
  obtain ⟨as, hrd, hin, hold⟩ := reads_layAllW hord _ _ _ hlaid hlay s₁.heap (fun _ _ e => e)
  have L : Laid r.records w s s₁ args vs as := ⟨⟨ord, hord, hlaid⟩, hrd, hin, hold, keeps, hal.1.trans hgens, hal.2.2.1⟩
  have G₁ := G.keeps hXk keeps
  obtain ⟨a, o, pm, cd, doc, dV, kV, h1, h2, h3, h4, h5⟩ := G₁.fn hdef
  have h := walk w s s₁ _ _ G₁ (hYk _ _ _ (hY w s y) keeps) a o pm cd doc dV kV h2 h3 h4 h5 (defOf_name hdef ▸ h1) L.gens args vs as hpre hlay L.reads L.well (L.low G.low)
  obtain ⟨k, f, s', s'', hrun, hsched, hfo, hcase, hos, hkp⟩ := ends_clean (prog := r.claim.prog) (w := w) (t := do match ← nsGet mainNs r.name with
      | some f => do ret (← PySem.call f vs)
      | none => unsupported "claim.caller:no-such-global") (s := s₁) (R := fun f s' => r.claim.Ends s args vs s₁ (.ok f) s' ∧ s'.os = s.os ∧ namesKept r.claim.prog r.keeps s.heap s'.heap) (Shared.asleep_of_life hal.2.2.2 hz)
    (c_bindAny (wpAny_nsGet G₁.T.g (by
      rw [h1]
      refine c_bind (c_mono h fun v s' g => c_pure ⟨_, rfl, ?_⟩)
      have z := g.laid (c := r.claim) hsame hwi hi L
      exact ⟨⟨z.1, z.2.1, namesKept_of hT hg _ keeps g.2.1.old⟩, leftWithCleanup_false_of_bare z.2.2⟩)))
  obtain ⟨eh, _, _, eo, _⟩ := Shared.forget_eq hfo
  have hcase := hcase.congr eh
  rw [← eh] at hkp
  rw [← eo] at hos
  have hlife : s'.heap.life = s.heap.life := (runN_life _ _ _ hrun).trans hal.2.2.2
  refine hq8 ⟨vs, s₁, hlaid, k, _, s', hsched, ?_, (fun _ i x hx => by rw [hgens] at hx; simp at hx), fun q => ⟨hkp, noTable hwr q⟩, by rw [hlife], Shared.rest_eq hos⟩
  rcases hcase with ⟨v, e, d1, d2, d3, d4, d5⟩ | ⟨e, ob, cls, ee, _⟩
  · cases e
    exact .inl ⟨v, rfl, d1, d2, d3, fun b o y _ => d4 b o y, d5⟩
  · cases ee
end Mine
end
section
open PySem PySem.W PyProof.Rows PySem.Calls
set_option Elab.async false
namespace Mine

def topRunT (tb : String → Option Builtin) (p : Program) (w : World) (n₀ : Nat) (ann : Option Value) : Nat → SharedT → Thread → Option SharedT
  | 0, _, _ => none
  | n + 1, s, t => match through t with
    | true => some s
    | false => match stepOk n₀ ann t with
      | false => none
      | true => match stepT (denote tb) p w s t with
        | some (s', t') => topRunT tb p w n₀ ann n s' t'
        | none => none
theorem topRunT_spec {tb : String → Option Builtin} {p : Program} {w : World} {n₀ : Nat} {ann : Option Value} : ∀ {n : Nat} {s s' : SharedT} {t : Thread}, topRunT tb p w n₀ ann n s t = some s' → topRun tb p w n₀ ann n s.abs t = some s'.abs
  | 0, _, _, _, h => by cases h
  | n + 1, s, s', t, h => by
    unfold topRunT at h
    unfold topRun
    cases he : through t with
    | true => rw [he] at h; cases h; rfl
    | false =>
      rw [he] at h
      cases hk : stepOk n₀ ann t with
      | false => rw [hk] at h; cases h
      | true =>
        rw [hk] at h
        cases hs : stepT (denote tb) p w s t with
        | none => rw [hs] at h; cases h
        | some r => obtain ⟨s₂, t₂⟩ := r; rw [hs] at h; rw [stepT_spec hs]; exact topRunT_spec h

def treeOf : List Obj → Nat → BT → BT
  | [], _, t => t
  | o :: r, n, t => treeOf r (n + 1) (t.ins n o)
noncomputable def bootT (P : Params) : SharedT := ⟨treeOf (boot_heap P).objs.toList 0 .nil, (boot_heap P).objs.size, (boot_heap P).life, #[], boot_drawn, boot_toks, {}⟩
noncomputable def bootS (P : Params) (os : OsState) : SharedT := { bootT P with os := os }
theorem bootS_abs (P : Params) (os : OsState) : (bootS P os).abs = ⟨boot_heap P, #[], boot_drawn, boot_toks, os⟩ := by kernel_rfl

theorem left_of {p q : Program} {loose : List Str} {Xt : Shared → Bool} {α : Type} {Yf : Shared → α} {Ya : World → α} {N : Nat}
    (ho : ∀ w : World, (fencedOpening treeTable p w N).map (fun s => (s.heap, s.gens, s.drawn, s.toks)) = some (boot_heap w.params, Array.mk [], boot_drawn, boot_toks))
    (hn : ∀ P, ((boot_heap P).isNs mainGlobals && (#[] : Array GenState).size == 0) = true)
    (key : ∀ (w : World) (os : OsState), (topRunT treeTable p w (boot_heap w.params).objs.size ((boot_heap w.params).nsMap mainGlobals "__annotations__") N (bootS w.params os) (topStub p)).map
      (fun s => ((staticsOk (importedModules p.main.body) (boot_heap w.params) s.abs.heap && namesBound p s.abs.heap && gensDone s.abs && laidKept (boot_heap w.params) s.abs.heap),
        openSeen q loose (importedModules p.main.body) Xt true s.abs, Yf s.abs)) = some (true, openGood q loose, Ya w)) :
    LeftO p q loose Xt Yf Ya N := fun w => by
  obtain ⟨s₀, h0, e0⟩ := Option.map_eq_some_iff.mp (ho w)
  obtain ⟨hp, gs, dr, tk, os⟩ := s₀
  simp only [Prod.mk.injEq] at e0
  obtain ⟨rfl, rfl, rfl, rfl⟩ := e0
  obtain ⟨sT, hT, eT⟩ := Option.map_eq_some_iff.mp (key w os)
  simp only [Prod.mk.injEq] at eT
  obtain ⟨e1, e2, e3⟩ := eT
  have hr := topRunT_spec hT
  rw [bootS_abs] at hr
  unfold openEnds
  rw [h0]
  show (topFrom treeTable p w N ⟨boot_heap w.params, #[], boot_drawn, boot_toks, os⟩).map _ = _
  unfold topFrom
  dsimp only
  rw [hn w.params]
  dsimp only
  rw [hr]
  show (match _ with | true => some sT.abs | false => none).map _ = _
  rw [e1]
  show some (_, _) = _
  rw [e2, e3]
def q0 : Program := { PySem.Challenge.pw_tg0040_01 with main := { PySem.Challenge.pw_tg0040_01.main with body := PySem.Challenge.pw_tg0040_01.main.body.drop 41 } }
def loose0 : List Str := (bindsAtTop <$> (PySem.Challenge.pw_tg0040_01.main.body.take 41)).flatten.eraseDups
def topG (ok : Nat → Option Value → Thread → Bool) (stp : SharedT → Thread → Option (SharedT × Thread)) (n₀ : Nat) (ann : Option Value) : Nat → SharedT → Thread → Option SharedT
  | 0, _, _ => none
  | n + 1, s, t => match through t with
    | true => some s
    | false => match ok n₀ ann t with
      | false => none
      | true => match stp s t with
        | some (s', t') => topG ok stp n₀ ann n s' t'
        | none => none
theorem topG_eq {tb : String → Option Builtin} {p : Program} {w : World} {n₀ : Nat} {ann : Option Value} : ∀ (n : Nat) (s : SharedT) (t : Thread), topRunT tb p w n₀ ann n s t = topG stepOk (stepT (denote tb) p w) n₀ ann n s t
  | 0, _, _ => rfl
  | n + 1, s, t => by
    unfold topRunT topG
    cases through t with
    | true => rfl
    | false =>
      dsimp only
      cases stepOk n₀ ann t with
      | false => rfl
      | true =>
        dsimp only
        cases stepT (denote tb) p w s t with
        | none => rfl
        | some r => exact topG_eq n _ _
noncomputable def stp (p : Program) (w : World) : SharedT → Thread → Option (SharedT × Thread) := PySem.W.Fast.tw10156331382660048174 (PySem.W.Fast.tw11892475500146522536 PySem.W.Fast.tw14364793385576792824) p w
theorem topF_eq {p : Program} {w : World} {n₀ : Nat} {ann : Option Value} (n : Nat) (s : SharedT) (t : Thread) : topRunT treeTable p w n₀ ann n s t = topG PySem.W.Fast.tw6613529449190102663 (stp p w) n₀ ann n s t := by
  rw [topG_eq, PySem.W.Fast.te10156331382660048174, PySem.W.Fast.te11892475500146522536, PySem.W.Fast.te14364793385576792824, PySem.W.Fast.te6613529449190102663]
  rfl

set_option maxRecDepth 100000 in
set_option maxHeartbeats 0 in
theorem said0 : PySem.Challenge.rw_tg0040_01.wellSaid = true := by
  rw [PySem.W.Fast.te9446332074065402090]
  kernel_rfl
set_option maxRecDepth 100000 in
theorem holds0 {d : DefRec} {kwd : List (Str × Expr)} (H : Hook) (said : PySem.Challenge.rw_tg0040_01.row.wellSaid = true)
    (left : LeftO PySem.Challenge.rw_tg0040_01.row.prog q0 loose0 (fun s => xlAt q0 [] s && recOk (RowW.records PySem.Challenge.rw_tg0040_01.row.toRowW) s) (Hook.obs H) (Hook.val H) 7000)
    (hdef : defOf q0 PySem.Challenge.rw_tg0040_01.row.name = some (d, kwd)) (hp : PySem.Challenge.rw_tg0040_01.row.prog.theDef PySem.Challenge.rw_tg0040_01.row.name = some (d.params, d.body, d.scope)) (hk : kwWritten? d.params.kwonlyargs d.params.kw_defaults = some kwd)
    (hw : PySem.Challenge.rw_tg0040_01.row.toRowW.promised) (walk : WalkC q0 loose0 (XL q0 []) (Hook.says H) PySem.Challenge.rw_tg0040_01.row.toRowW d kwd) : PySem.Challenge.rw_tg0040_01.row.Holds :=
  holds_clean left (Hook.of H) (Hook.keeps H) (fun s e => xl_of s (Bool.and_eq_true_iff.mp e).1) XL.keeps hdef hp hk (fun s e => recFacts_of (Bool.and_eq_true_iff.mp e).2) (by rfl) said (by decide +kernel) ⟨rfl, rfl, rfl, rfl, rfl, by decide +kernel⟩ hw walk
set_option hygiene false
local macro_rules | `(tactic| o_law) => `(tactic| refine holds_law said0 fun said => ?_)
local macro_rules | `(tactic| o_head $H) => `(tactic| (refine holds0 $H said ?hl (by rfl) (by rfl) (by rfl) ?hw ?hc; k_extra "my o_head"))
theorem ln_head : True := by
  k_with "my o_head" => (case hl => (refine left_of (boot_open (by kernel_rfl) (by decide) (fun s => by kernel_rfl)) (fun P => by kernel_rfl) ?_); intro w os; rw [topF_eq]; kernel_rfl)
  trivial
set_option maxRecDepth 100000 in
set_option maxHeartbeats 0 in
open_top hd for PySem.Challenge.rw_tg0040_01
end Mine
end
section
open PySem PySem.W PyProof.Rows PySem.Calls
set_option Elab.async false
namespace Mine
set_option maxRecDepth 100000

section
variable {M : Model} {A : Around} {s : Shared} {env : Env}

theorem c_nil {Q : Flow → Shared → Prop} (h : Q .next s) : wpC M A (execs [] env) Q s := fun _ _ _ _ => h
theorem c_cons {st rest} {Q : Flow → Shared → Prop} (h : wpC M A (exec st env) (fun f s' => match f with | .next => wpC M A (execs rest env) Q s' | f => Q f s') s) :
    wpC M A (execs (st :: rest) env) Q s := by
  rw [execs_cons]
  exact c_bind (c_mono h fun f s' h' => by cases f <;> first | exact h' | exact c_pure h')
theorem c_consA {st rest} {Q : Flow → Shared → Prop} (h : wpAny M A (exec st env) (fun f s' => match f with | .next => wpC M A (execs rest env) Q s' | f => Q f s') nE s) :
    wpC M A (execs (st :: rest) env) Q s := c_cons (c_any h)

theorem c_IfC {test body orelse pos} {Q : Flow → Shared → Prop}
    (h : wpC M A (isTrue test env (eval test env)) (fun b s₂ => if b then wpC M A (execs body env) Q s₂ else wpC M A (execs orelse env) Q s₂) s) :
    wpC M A (exec (.If test body orelse pos) env) Q s := by
  rw [exec_If]
  refine c_standAt (c_bind (c_mono h fun b s₂ h₂ => ?_))
  cases b <;> exact h₂
theorem c_If {test body orelse pos} {Q : Flow → Shared → Prop}
    (h : wpAny M A (isTrue test env (eval test env)) (fun b s₂ => if b then wpC M A (execs body env) Q s₂ else wpC M A (execs orelse env) Q s₂) nE s) :
    wpC M A (exec (.If test body orelse pos) env) Q s := c_IfC (c_any h)

theorem c_Expr {e pos} {Q : Flow → Shared → Prop} (h : wpC M A (eval e env) (fun v s' => match v with | .ref _ => False | _ => Q .next s') s)
    (hi : interactive env = false := by rfl) (hs : swapsWith e none pos.line env = pure false := by rfl) :
    wpC M A (exec (.Expr e pos) env) Q s := by
  rw [exec_Expr env e pos hi hs]
  refine c_standAt (c_bind (c_mono h (fun v s' h' => ?_)))
  have hv : ∀ a, v ≠ .ref a := fun a hva => by subst hva; exact h'
  rw [dropValue_plain hv]
  refine c_pure ?_
  cases v <;> first | exact h' | exact (hv _ rfl).elim

theorem c_AssignName {x pos' value pos} {Q : Flow → Shared → Prop}
    (h : wpC M A (eval value env) (fun v s₁ => wpAny M A (storeName env x v) (fun _ => Q .next) nE s₁) s)
    (hs : swapsWith value (some (.Name x pos')) pos.line env = pure false := by rfl) :
    wpC M A (exec (.Assign [.Name x pos'] value pos) env) Q s := by
  rw [exec_Assign_Name env x pos' value pos hs]
  refine c_standAt (c_bind (c_mono h fun v s₁ h₁ => c_standAt (c_bindAny (wpAny_bindName (wpAny_mono h₁ (fun _ _ h => c_pure h) fun _ _ h => h)))))

theorem c_AssignAttr {o attr pos' value pos} {Q : Flow → Shared → Prop}
    (h : wpC M A (eval value env) (fun v s₁ => wpAny M A (eval o env) (fun ov s₂ => wpAny M A (setAttr ov attr v) (fun _ => Q .next) nE s₂) nE s₁) s)
    (hs : swapsWith value (some (.Attribute o attr pos')) pos.line env = pure false := by rfl) :
    wpC M A (exec (.Assign [.Attribute o attr pos'] value pos) env) Q s := fun Γ p hΓ hc => by
  simp only [plainObj_exec_Assign_Attribute o attr pos' value pos hs, assign_Attribute, Sem.wp_bind', Sem.wp_holding, Sem.wp_cmd_standAt, Sem.wp_release, Sem.wp_pure']
  exact Sem.wp_mono M Γ _ (fun v p₁ s₁ h₁ => Sem.wp_mono M Γ _ (fun ov _ s₂ h₂ => h₂ Γ _ hΓ) (fun _ _ _ h' => h') _ _ (h₁ Γ p₁ hΓ)) (fun _ _ _ h' => h') _ _ (h Γ _ hΓ hc)

theorem c_AssignTuple {elts k tpos value pos} {Q : Flow → Shared → Prop}
    (h : wpC M A (eval value env) (fun v s₁ => wpAny M A (assign (.Tuple elts k tpos) env v) (fun _ => Q .next) nE s₁) s)
    (hs : swapsWithSole [.Tuple elts k tpos] value pos.line env = pure false := by rfl)
    (hw : swappedStores [.Tuple elts k tpos] value env = pure none := by rfl) :
    wpC M A (exec (.Assign [.Tuple elts k tpos] value pos) env) Q s := by
  rw [exec_Assign]
  refine c_standAt ?_
  rw [hs]
  refine c_bind (c_pure ?_)
  rw [if_neg (by decide)]
  refine c_bind (c_mono h fun v s₁ h₁ => ?_)
  rw [hw]
  refine c_bind (c_pure ?_)
  show wpC M A (do assignAll v ((assignEach [.Tuple elts k tpos] env).map (·.2)); pure .next) Q s₁
  exact c_bindAny (wpAny_mono h₁ (fun _ _ h => c_pure h) fun _ _ h => h)

theorem c_AssignSwap {elts k tpos value pos} {names : List Str} {Q : Flow → Shared → Prop}
    (h : wpC M A (eval value env) (fun v s₁ => wpAny M A (unpackItems v names.length none) (fun items s₂ =>
      wpAny M A (assignInOrder (names.reverse.map fun n => bindName env n) items.reverse) (fun _ => Q .next) nE s₂) nE s₁) s)
    (hs : swapsWithSole [.Tuple elts k tpos] value pos.line env = pure false := by rfl)
    (hw : swappedStores [.Tuple elts k tpos] value env = pure (some names) := by rfl) :
    wpC M A (exec (.Assign [.Tuple elts k tpos] value pos) env) Q s := by
  rw [exec_Assign]
  refine c_standAt ?_
  rw [hs]
  refine c_bind (c_pure ?_)
  rw [if_neg (by decide)]
  refine c_bind (c_mono h fun v s₁ h₁ => ?_)
  rw [hw]
  refine c_bind (c_pure ?_)
  show wpC M A (do rule "assign.swapped-stores"; let items ← unpackItems v names.length none; assignInOrder (names.reverse.map fun n => bindName env n) items.reverse; pure .next) Q s₁
  refine c_bindAny (wpAny_rule (c_bindAny (wpAny_mono h₁ (fun items s₂ h₂ => c_bindAny (wpAny_mono h₂ (fun _ _ h => c_pure h) fun _ _ h => h)) fun _ _ h => h)))

theorem c_Return {e pos} {Q : Flow → Shared → Prop} (h : wpC M A (eval e env) (fun v => Q (.ret v)) s) :
    wpC M A (exec (.Return (some e) pos) env) Q s := by
  rw [exec_Return_some]
  exact c_standAt (c_bind (c_mono h fun v s' h' => c_pure h'))

theorem c_Try {body handlers orelse pos} {Q : Flow → Shared → Prop} (h : wpC M A (execs body env) (fun f s₁ => match f with | .next => wpC M A (execs orelse env) Q s₁ | f => Q f s₁) s) :
    wpC M A (exec (.Try body handlers orelse [] pos) env) Q s := by
  rw [arm_exec_Try]
  refine c_standAt ?_
  unfold tryStmt
  simp only [List.isEmpty_nil, if_true]
  refine c_bind (c_attempt (c_mono h fun f s₁ h₁ => ?_))
  cases f <;> first | exact h₁ | exact c_pure h₁

theorem c_runOwn {c : Code} {Q : Flow → Shared → Prop} (hc : codeC M A c Q s) : wpC M A (runOwn c env) Q s := by
  unfold runOwn
  exact c_onRaise (c_run (by rw [show A.mark none = A from by cases A; rfl]; exact hc))

theorem c_For {target iter body orelse pos} {Q : Flow → Shared → Prop}
    (h : wpAny M A (eval iter env) (fun x s₁ => wpAny M A (pyIter x) (fun it s₂ => codeC M A (.forLoop target it body orelse env) Q s₂) nE s₁) nE s)
    (hs : ∀ x, foldedSetIterable iter env x = pure x := by intro _; rfl) :
    wpC M A (exec (.For target iter body orelse pos) env) Q s := by
  rw [exec_For]
  refine c_standAt (c_bindAny (wpAny_mono h (fun x s₁ h₁ => ?_) fun _ _ h => h))
  refine c_bindAny (wpAny_of_eq (hs x) (c_standAt (c_bindAny (wpAny_holding (wpAny_mono h₁ (fun it s₂ h₂ => c_runOwn h₂) fun _ _ h => h)))))

theorem c_BinOp {l op r pos} {Q : Value → Shared → Prop}
    (h : wpAny M A (eval l env) (fun a s₁ => wpC M A (eval r env) (fun b s₂ => wpAny M A (binaryOp op a b) Q nE s₂) s₁) nE s) :
    wpC M A (eval (.BinOp l op r pos) env) Q s := fun Γ p hΓ hc => by
  simp only [eval_BinOp, Sem.wp_bind', Sem.wp_holding, Sem.wp_cmd_standAt, Sem.wp_operate]
  exact Sem.wp_mono M Γ _ (fun a p₁ s₁ h₁ => Sem.wp_mono M Γ _ (fun b _ s₂ h₂ => h₂ Γ _ hΓ) (fun _ _ _ h' => h') _ _ (h₁ Γ p₁ hΓ hc))
    (fun _ _ _ h' => h') _ _ (h Γ p hΓ)
theorem c_Compare {l op r pos} {Q : Value → Shared → Prop}
    (h : wpC M A (eval l env) (fun a s₁ => wpAny M A (eval r env) (fun b s₂ => wpAny M A (compareOp op a b) Q nE s₂) nE s₁) s)
    (hm : behindInMarks op r = false := by with_unfolding_all rfl) :
    wpC M A (eval (.Compare l [op] [r] pos) env) Q s := fun Γ p hΓ hc => by
  simp only [eval_Compare1, markedBehindIn_of_false hm, Sem.wp_bind', Sem.wp_holding, Sem.wp_cmd_standAt, Sem.wp_operate]
  exact Sem.wp_mono M Γ _ (fun a p₁ s₁ h₁ => Sem.wp_mono M Γ _ (fun b _ s₂ h₂ => h₂ Γ _ hΓ) (fun _ _ _ h' => h') _ _ (h₁ Γ p₁ hΓ))
    (fun _ _ _ h' => h') _ _ (h Γ p hΓ hc)
theorem c_isCompare {l op r pos whole} {Q : Bool → Shared → Prop}
    (h : wpC M A (eval l env) (fun a s₁ => wpAny M A (eval r env) (fun b s₂ => wpAny M A (compareOp op a b) (fun c s₃ => wpAny M A (truthy c) Q nE s₃) nE s₂) nE s₁) s)
    (hm : behindInMarks op r = false := by with_unfolding_all rfl) :
    wpC M A (isTrue (.Compare l [op] [r] pos) env whole) Q s := fun Γ p hΓ hc => by
  simp only [isTrue_Compare1, markedBehindIn_of_false hm, Sem.wp_bind', Sem.wp_holding, Sem.wp_cmd_standAt, Sem.wp_operate]
  exact Sem.wp_mono M Γ _ (fun a p₁ s₁ h₁ => Sem.wp_mono M Γ _ (fun b _ s₂ h₂ => Sem.wp_mono M Γ _ (fun c _ s₃ h₃ => h₃ Γ _ hΓ) (fun _ _ _ h' => h') _ _ (h₂ Γ _ hΓ)) (fun _ _ _ h' => h') _ _ (h₁ Γ p₁ hΓ))
    (fun _ _ _ h' => h') _ _ (h Γ p hΓ hc)
/-- «not CALL» as a test, where the call gives a bool -/
theorem c_isNot {e pos whole} {Q : Bool → Shared → Prop} (h : wpC M A (isTrue e env (eval e env)) (fun b => Q (!b)) s) : wpC M A (isTrue (.UnaryOp .Not e pos) env whole) Q s :=
  c_bind (c_mono h fun b s' h' => c_pure h')
theorem c_isCall {f args kws pos} {Q : Bool → Shared → Prop} (h : wpC M A (eval (.Call f args kws pos) env) (fun v s' => ∃ b, v = .bool b ∧ Q b s') s) :
    wpC M A (isTrue (.Call f args kws pos) env (eval (.Call f args kws pos) env)) Q s := by
  show wpC M A (eval (.Call f args kws pos) env >>= fun v => standAt pos >>= fun _ => holding [v] (truthy v)) Q s
  refine c_bind (c_mono h fun v s' h' => ?_)
  obtain ⟨b, rfl, hb⟩ := h'
  exact c_standAt (c_holding (c_any (wpAny_truthy_bool hb)))
theorem c_isOr {x y pos whole} {Q : Bool → Shared → Prop} (h : wpC M A (isTrue x env (eval x env)) (fun b s₁ => if b then Q true s₁ else wpC M A (isTrue y env (eval y env)) Q s₁) s) :
    wpC M A (isTrue (.BoolOp .Or [x, y] pos) env whole) Q s := by
  show wpC M A (allTrue .Or [x, y] env) Q s
  unfold allTrue
  refine c_bind (c_mono h fun b s₁ h₁ => ?_)
  cases b with
  | true => exact c_pure h₁
  | false =>
    simp only [Bool.false_eq_true, if_false] at h₁
    show wpC M A (allTrue .Or [y] env) Q s₁
    unfold allTrue
    refine c_bind (c_mono h₁ fun b s₂ h₂ => ?_)
    cases b with
    | true => exact c_pure h₂
    | false =>
      show wpC M A (allTrue .Or [] env) Q s₂
      unfold allTrue
      exact c_pure h₂

theorem c_spliced_nil {Q : List Value → Shared → Prop} (h : Q [] s) : wpC M A (spliced []) Q s := c_pure h
theorem c_spliced_cons {x : Sem Value} {rest : List (Bool × Sem Value)} {Q : List Value → Shared → Prop}
    (h : wpC M A x (fun v s₁ => wpC M A (spliced rest) (fun vs s₂ => Q (v :: vs) s₂) s₁) s) : wpC M A (spliced ((false, x) :: rest)) Q s := by
  rw [spliced]
  refine c_bind (c_mono h fun v s₁ h₁ => ?_)
  simp only [Bool.false_eq_true, if_false]
  exact c_bind (c_pure (c_bind (c_holding (c_mono h₁ fun vs s₂ h₂ => c_pure h₂))))
theorem c_Tuple2 {e₁ e₂ : Expr} {k : Nat} {pos : Pos} {Q : Value → Shared → Prop}
    (h : wpC M A (eval e₁ env) (fun v₁ s₁ => wpC M A (eval e₂ env) (fun v₂ s₂ => wpAny M A (newTuple [v₁, v₂]) Q nE s₂) s₁) s)
    (ht : backTo pos (starEach [e₁, e₂] env) = [(false, eval e₁ env), (false, eval e₂ env)] := by rfl) : wpC M A (eval (.Tuple [e₁, e₂] k pos) env) Q s := by
  show wpC M A (do standAt pos; newTuple (← spliced (backTo pos (starEach [e₁, e₂] env)))) Q s
  rw [ht]
  exact c_standAt (c_bind (c_spliced_cons (c_mono h fun v₁ s₁ h₁ => c_spliced_cons (c_mono h₁ fun v₂ s₂ h₂ => c_spliced_nil (c_any h₂)))))
theorem c_Tuple3 {e₁ e₂ e₃ : Expr} {k : Nat} {pos : Pos} {Q : Value → Shared → Prop}
    (h : wpC M A (eval e₁ env) (fun v₁ s₁ => wpC M A (eval e₂ env) (fun v₂ s₂ => wpC M A (eval e₃ env) (fun v₃ s₃ => wpAny M A (newTuple [v₁, v₂, v₃]) Q nE s₃) s₂) s₁) s)
    (ht : backTo pos (starEach [e₁, e₂, e₃] env) = [(false, eval e₁ env), (false, eval e₂ env), (false, eval e₃ env)] := by rfl) : wpC M A (eval (.Tuple [e₁, e₂, e₃] k pos) env) Q s := by
  show wpC M A (do standAt pos; newTuple (← spliced (backTo pos (starEach [e₁, e₂, e₃] env)))) Q s
  rw [ht]
  exact c_standAt (c_bind (c_spliced_cons (c_mono h fun v₁ s₁ h₁ => c_spliced_cons (c_mono h₁ fun v₂ s₂ h₂ => c_spliced_cons (c_mono h₂ fun v₃ s₃ h₃ => c_spliced_nil (c_any h₃))))))

theorem c_evalArgs {f : Value} {args : List (Bool × Sem Value)} {Q : Args → Shared → Prop} (hp : args.all (fun x => !x.1) = true)
    (h : wpAny M A (spliced args) (fun vs s' => Q ⟨vs, []⟩ s') nE s) : wpAny M A (evalArgs f true args []) Q nE s := by
  cases args with
  | nil => 
    unfold evalArgs
    show wpAny M A (spliced [] >>= _) Q nE s
    refine wpAny_bind (wpAny_mono h (fun vs s' h' => ?_) fun _ _ x => x)
    refine wpAny_bind (wpAny_pure ?_)
    refine wpAny_holding ?_
    exact wpAny_bind (wpAny_pure (wpAny_bind (wpAny_pure (wpAny_pure h'))))
  | cons x rest =>
    obtain ⟨b, t⟩ := x
    have hb : b = false := by simpa using (List.all_eq_true.mp hp (b, t) (.head _))
    subst hb
    exact evalArgs_plain h

theorem c_callWith {P : Heap → Prop} {f : Value} {pos : Pos} {first : List Value} {args : List (Bool × Sem Value)} {Q : Value → Shared → Prop}
    (hk : ∀ h, P h → ∃ k, (k = Keeper.frame ∨ k = Keeper.machine ∨ k = Keeper.boundFrame) ∧ Looks M h (keeperOf f) k)
    (h : wpAny M A (spliced args) (fun vs s₁ => P s₁.heap ∧ wpC M A (call f (first ++ vs)) Q s₁) nE s) (hp : args.all (fun x => !x.1) = true := by rfl) : wpC M A (callWith pos f first args []) Q s := by
  have hplain : args.any (·.1) = false := by
    rw [List.any_eq_false]
    intro x hx
    have := List.all_eq_true.mp hp x hx
    simpa using this
  unfold callWith
  refine c_bindAny (wpAny_holding (c_evalArgs hp (wpAny_mono h (fun a s₁ h₁ => c_standAt ?_) fun _ _ x => x)))
  obtain ⟨k, hk', L⟩ := hk _ h₁.1
  simp only [hplain, List.any_nil, Bool.or_false]
  refine c_bindAny (L.here ?_)
  have tail : ∀ {t : Sem Value}, wpC M A t Q s₁ → wpC M A (t >>= fun r => holding [r] point >>= fun _ => pure r) Q s₁ :=
    fun ht => c_bind (c_mono ht (fun r s₂ hr => c_bindAny (wpAny_holding (wpAny_point (c_pure hr)))))
  have marked (mk : Value) : wpC M A (callMarked mk f (first ++ a) []) Q s₁ := by unfold callMarked; exact c_keep h₁.2
  rcases hk' with rfl | rfl | rfl <;> dsimp only <;> first | exact tail h₁.2 | (split <;> first | exact tail h₁.2 | exact tail (marked _))

theorem c_CallName {x : Str} {p pos : Pos} {args : List Expr} {Q : Value → Shared → Prop}
    (h : wpAny M A (eval (.Name x p) env) (fun f s₁ => wpC M A (callWith pos f [] (backTo pos (starEach args env)) []) Q s₁) nE s) :
    wpC M A (eval (.Call (.Name x p) args [] pos) env) Q s := c_bindAny h
theorem c_CallAttr {o : Expr} {name : Str} {apos pos : Pos} {args : List Expr} {Q : Value → Shared → Prop}
    (h : wpAny M A (eval o env) (fun ov s₁ => wpAny M A (getMethod ov name (do return (← importBound o env).getD true)) (fun r s₂ => wpC M A (callWith pos r.1 r.2 (backTo pos (starEach args env)) []) Q s₂) nE s₁) nE s)
    (hbase : attributeBase o name env (eval o env) = eval o env := by rfl) (hline : (apos.endLine == pos.line) = true := by rfl)
    (hform : methodCallForm (args.length + ([] : List Keyword).length) (backTo pos (starEach args env)) (backToKw pos (keywordEach [] env)) = true := by rfl) :
    wpC M A (eval (.Call (.Attribute o name apos) args [] pos) env) Q s := by
  rw [arm_eval_Call, hbase]
  refine c_bindAny (wpAny_mono h (fun ov s₁ h₁ => ?_) fun _ _ e => e)
  refine c_standAt ?_
  have hpos : methodCallPos true o env apos pos = pure pos := by unfold methodCallPos; simp [hline]
  unfold methodCall
  rw [hform]
  refine c_bindAny (wpAny_holding (wpAny_mono h₁ (fun r s₂ h₂ => ?_) fun _ _ e => e))
  obtain ⟨f, first⟩ := r
  exact c_bindAny (wpAny_of_eq hpos h₂)
end

section
variable {prog : Program} {w : World} {A : Around} {s : Shared}

theorem codeC_block {stmts : List Stmt} {env : Env} {R : Flow → Shared → Prop} (h : wpC (model prog w) A (execs stmts env) R s) : codeC (model prog w) A (.block stmts env) R s := by
  refine codeC_of_tree rfl ?_
  show wpC _ _ (do return Fin.done (← (execs stmts env).onRaise (fun x => do noteFrame x env; theTreesLotGoes x))) _ s
  exact c_bind (c_onRaise (c_mono h fun f s' h' => c_pure h'))

theorem codeC_forLoop {R : Flow → Shared → Prop} {target it body env} (I : Nat → Shared → Prop)
    (turn : ∀ n s, I n s → wpAny (model prog w) A (pyNext it) (fun r s₁ => match r with
      | none => R .next s₁
      | some v => wpAny (model prog w) A (letOwnedTupleGo target it v) (fun _ s₁' => wpAny (model prog w) A (assign target env v) (fun _ s₂ => wpC (model prog w) A (execs body env) (fun f s₃ => match f with
          | .next | .cont => ∃ m, m < n ∧ I m s₃
          | .brk => R .next s₃
          | .ret v => R (.ret v) s₃) s₂) nE s₁') nE s₁) nE s)
    (n : Nat) (h : I n s) : codeC (model prog w) A (.forLoop target it body [] env) R s := by
  induction n using Nat.strongRecOn generalizing s with
  | ind n ih =>
    refine codeC_of_tree rfl ?_
    show wpC _ _ ((forTurn target it body [] env).onRaise (fun x => do noteFrame x env; theTreesLotGoes x)) _ s
    refine c_onRaise ?_
    unfold forTurn
    refine c_standAt (c_bind (c_onRaise (c_any (wpAny_mono (turn n s h) (fun r s₁ h₁ => ?_) fun _ _ h => h))))
    cases r with
    | none => exact c_pure ⟨rfl, codeC_block (c_nil h₁)⟩
    | some v =>
      refine c_bindAny (wpAny_mono h₁ (fun _ s₁' h₁' => c_bindAny (wpAny_mono h₁' (fun _ s₂ h₂ => c_bind (c_mono h₂ fun f s₃ h₃ => ?_)) fun _ _ h => h)) fun _ _ h => h)
      cases f with
      | next => obtain ⟨m, hm, hI⟩ := h₃; exact c_pure ⟨rfl, ih m hm hI⟩
      | cont => obtain ⟨m, hm, hI⟩ := h₃; exact c_pure ⟨rfl, ih m hm hI⟩
      | brk => exact c_pure h₃
      | ret v => exact c_pure h₃

theorem codeC_builtin {id : String} {args : Args} {b : Builtin} {R : Flow → Shared → Prop} (hh : holder (.builtin id args) = false) (hb : entryFor table id = some b)
    (h : wpC (model prog w) (A.under (.builtin id args)) (b args) (fun fin s' => match fin with | .done f => R f s' | .again c' => c'.quiet = true ∧ codeC (model prog w) A c' R s') s) :
    codeC (model prog w) A (.builtin id args) R s := by
  refine codeC_of_tree hh ?_
  show wpC _ _ (match entryFor table id with | some b => b args | none => unsupported ((withoutEnding? id "#data").getD id)) _ s
  rw [hb]; exact h

theorem codeC_func {body env} {R : Flow → Shared → Prop} (h : wpC (model prog w) (A.deeper env) (execs body env) (fun f s' => R (.ret (match f with | .ret v => v | _ => .none)) s') s) :
    codeC (model prog w) A (.func body env) R s := by
  refine codeC_of_tree rfl ?_
  show wpC _ (A.deeper env) (do point; match ← (execs body env).onRaise (leaving env) with | .ret v => ret v | _ => ret .none) _ s
  refine c_bindAny (wpAny_point (c_bind (c_onRaise (c_mono h (fun f s' h' => ?_)))))
  cases f <;> exact c_pure h'

theorem codeC_call_function {R : Flow → Shared → Prop} {a : Addr} {args : Args} {o : Obj} {fd : FuncData} {body : List Stmt} {binds : List (Str × Value)} (hroom : A.depth < recursionLimit)
    (ho : s.heap.get? a = some o) (hd' : o.data = .func fd) (hlim : s.heap.NoLimit) (hcd : s.heap.CodeRec fd.code fd.qualname) (hbody : fd.body = .stmts body) (hbind : BindsTo s fd args binds)
    (hcell : ∀ x ∈ fd.scope.names, x.2 ≠ .cell) (hloc : ∀ x ∈ binds, fd.scope.names.lookup x.1 = some .local)
    (h : ∀ h₀, h₀.Ns s.heap.objs.size (fun x => binds.reverse.lookup x) → (∀ b o, s.heap.get? b = some o → h₀.get? b = some o) →
      wpC (model prog w) (A.deeper (callEnv fd s.heap.objs.size a)) (execs body (callEnv fd s.heap.objs.size a)) (fun f s' => R (.ret (match f with | .ret v => v | _ => .none)) s')
        { s with heap := h₀, toks := s.toks + binds.length })
    (hco : fd.scope.isCoroutine = false := by rfl) (hgen : fd.scope.isGenerator = false := by rfl) (hk : fd.scope.kind = .function := by rfl) :
    codeC (model prog w) A (.call (.ref a) args) R s := by
  refine codeC_of_tree rfl ?_
  show wpC _ A.in1 (callAny (.ref a) args) _ s
  simp only [callAny]
  refine c_bindAny (wpAny_load ho ?_)
  obtain ⟨c, oc, vs, tq, hc, hoc, hdc, hq⟩ := hcd
  simp only [hd', callFunction, hco, hgen, hbody, hc]
  refine c_bindAny (m := field (.ref c) 1) (wpAny_field hoc hdc hq ?_)
  refine c_bindAny (wpAny_pure ?_)
  refine c_bindAny (hbind _ _ _ _ ?_)
  refine c_bindAny (wpAny_newFunctionEnv hcell hloc (fun h₁ hns hsb => ?_) hk)
  have hk₁ : ∀ b o, s.heap.get? b = some o → h₁.get? b = some o := fun b o e => hsb.extBut b o (Nat.ne_of_lt (Heap.lt_size e)) (Heap.get?_push_of_some _ e)
  refine c_bindAny (wpAny_enterFrame (hlim.keeps hk₁) hroom (c_pure (And.intro rfl ?_)))
  have := h h₁ hns hk₁
  refine codeC_func ?_
  simpa only [callEnv, hc] using this
end
end Mine
end
section
open PySem PySem.W PyProof.Rows PySem.Calls
set_option Elab.async false
namespace Mine.BF
set_option maxRecDepth 100000

theorem plainAttrs_bytearray : PlainAttrs "bytearray" :=
  ⟨⟨"bytearray.__getattribute__", by rw [typeLookup_type, builtinLookup_eq_fast]; kernel_rfl, by decide +kernel⟩, by rw [typeLookup_type, builtinLookup_eq_fast]; kernel_rfl⟩
theorem owner_bytearray : Manifest.owners.lookup (String.ofList ['y', 'a', 'r', 'r', 'a', 'e', 't', 'y', 'b'].reverse) = some Manifest.sig_bytearray := by kernel_rfl

theorem slot_bytearray_len : Slot "bytearray" "__len__" "bytearray.__len__" :=
  .of (owner := "bytearray") (n := "__len__") (by rw [typeLookup_type, builtinLookup_eq_fast]; kernel_rfl) (by decide +kernel) (by decide +kernel) (by decide +kernel)
    (by first | exact .inl (by decide +kernel) | exact .inr (by decide +kernel)) (by rw [isSubtype_type]; kernel_rfl)
theorem entry_bytearray_len : entryFor table "bytearray.__len__" = some Builtin.«bytearray.__len__» := entryFor_of_tree (by kernel_rfl)

theorem args_bytearray_len_1 (a : Value) : argsOk "bytearray.__len__" ⟨[a], []⟩ := by
  unfold argsOk; rw [signature?_of (id := "bytearray.__len__") (n := ['_', '_', 'n', 'e', 'l', '_', '_']) (o := ['y', 'a', 'r', 'r', 'a', 'e', 't', 'y', 'b']) (by kernel_rfl) owner_bytearray]; kernel_rfl

theorem slot_bytearray_getitem : Slot "bytearray" "__getitem__" "bytearray.__getitem__" :=
  .of (owner := "bytearray") (n := "__getitem__") (by rw [typeLookup_type, builtinLookup_eq_fast]; kernel_rfl) (by decide +kernel) (by decide +kernel) (by decide +kernel)
    (by first | exact .inl (by decide +kernel) | exact .inr (by decide +kernel)) (by rw [isSubtype_type]; kernel_rfl)
theorem entry_bytearray_getitem : entryFor table "bytearray.__getitem__" = some Builtin.«bytearray.__getitem__» := entryFor_of_tree (by kernel_rfl)

theorem args_bytearray_getitem_2 (a b : Value) : argsOk "bytearray.__getitem__" ⟨[a, b], []⟩ := by
  unfold argsOk; rw [signature?_of (id := "bytearray.__getitem__") (n := ['_', '_', 'm', 'e', 't', 'i', 't', 'e', 'g', '_', '_']) (o := ['y', 'a', 'r', 'r', 'a', 'e', 't', 'y', 'b']) (by kernel_rfl) owner_bytearray]; kernel_rfl

theorem slot_bytearray_setitem : Slot "bytearray" "__setitem__" "bytearray.__setitem__" :=
  .of (owner := "bytearray") (n := "__setitem__") (by rw [typeLookup_type, builtinLookup_eq_fast]; kernel_rfl) (by decide +kernel) (by decide +kernel) (by decide +kernel)
    (by first | exact .inl (by decide +kernel) | exact .inr (by decide +kernel)) (by rw [isSubtype_type]; kernel_rfl)
theorem entry_bytearray_setitem : entryFor table "bytearray.__setitem__" = some Builtin.«bytearray.__setitem__» := entryFor_of_tree (by kernel_rfl)

theorem args_bytearray_setitem_3 (a b c : Value) : argsOk "bytearray.__setitem__" ⟨[a, b, c], []⟩ := by
  unfold argsOk; rw [signature?_of (id := "bytearray.__setitem__") (n := ['_', '_', 'm', 'e', 't', 'i', 't', 'e', 's', '_', '_']) (o := ['y', 'a', 'r', 'r', 'a', 'e', 't', 'y', 'b']) (by kernel_rfl) owner_bytearray]; kernel_rfl

theorem slot_bytearray_add : Slot "bytearray" (dunder "add") "bytearray.__add__" :=
  .of (owner := "bytearray") (n := "__add__") (by rw [typeLookup_type, builtinLookup_eq_fast]; kernel_rfl) (by decide +kernel) (by decide +kernel) (by decide +kernel)
    (by first | exact .inl (by decide +kernel) | exact .inr (by decide +kernel)) (by rw [isSubtype_type]; kernel_rfl)
theorem entry_bytearray_add : entryFor table "bytearray.__add__" = some Builtin.«bytearray.__add__» := entryFor_of_tree (by kernel_rfl)

theorem args_bytearray_add_2 (a b : Value) : argsOk "bytearray.__add__" ⟨[a, b], []⟩ := by
  unfold argsOk; rw [signature?_of (id := "bytearray.__add__") (n := ['_', '_', 'd', 'd', 'a', '_', '_']) (o := ['y', 'a', 'r', 'r', 'a', 'e', 't', 'y', 'b']) (by kernel_rfl) owner_bytearray]; kernel_rfl

theorem slot_bytearray_append : Slot "bytearray" "append" "bytearray.append" :=
  .of (owner := "bytearray") (n := "append") (by rw [typeLookup_type, builtinLookup_eq_fast]; kernel_rfl) (by decide +kernel) (by decide +kernel) (by decide +kernel)
    (by first | exact .inl (by decide +kernel) | exact .inr (by decide +kernel)) (by rw [isSubtype_type]; kernel_rfl)
theorem entry_bytearray_append : entryFor table "bytearray.append" = some Builtin.«bytearray.append» := entryFor_of_tree (by kernel_rfl)

theorem args_bytearray_append_2 (a b : Value) : argsOk "bytearray.append" ⟨[a, b], []⟩ := by
  unfold argsOk; rw [signature?_of (id := "bytearray.append") (n := ['d', 'n', 'e', 'p', 'p', 'a']) (o := ['y', 'a', 'r', 'r', 'a', 'e', 't', 'y', 'b']) (by kernel_rfl) owner_bytearray]; kernel_rfl

theorem type_bytearray_append : typeOf (.builtin "bytearray.append") = pure (.type "method_descriptor") := by show builtinType _ = _; rw [builtinType_eq_fast]; kernel_rfl

theorem slot_bytearray_init : Slot "bytearray" "__init__" "bytearray.__init__" :=
  .of (owner := "bytearray") (n := "__init__") (by rw [typeLookup_type, builtinLookup_eq_fast]; kernel_rfl) (by decide +kernel) (by decide +kernel) (by decide +kernel)
    (by first | exact .inl (by decide +kernel) | exact .inr (by decide +kernel)) (by rw [isSubtype_type]; kernel_rfl)
theorem entry_bytearray_init : entryFor table "bytearray.__init__" = some Builtin.«bytearray.__init__» := entryFor_of_tree (by kernel_rfl)

theorem args_bytearray_init_1 (a : Value) : argsOk "bytearray.__init__" ⟨[a], []⟩ := by
  unfold argsOk; rw [signature?_of (id := "bytearray.__init__") (n := ['_', '_', 't', 'i', 'n', 'i', '_', '_']) (o := ['y', 'a', 'r', 'r', 'a', 'e', 't', 'y', 'b']) (by kernel_rfl) owner_bytearray]; kernel_rfl

theorem args_bytearray_init_2 (a b : Value) : argsOk "bytearray.__init__" ⟨[a, b], []⟩ := by
  unfold argsOk; rw [signature?_of (id := "bytearray.__init__") (n := ['_', '_', 't', 'i', 'n', 'i', '_', '_']) (o := ['y', 'a', 'r', 'r', 'a', 'e', 't', 'y', 'b']) (by kernel_rfl) owner_bytearray]; kernel_rfl

theorem mro_ba : mroOf (.type "bytearray") = pure [.type "bytearray", .type "object"] := by rw [mroOf_type]; kernel_rfl
theorem lookup_ba_new : typeLookup (.type "bytearray") "__new__" = pure (some (.builtin "bytearray.__new__")) := by rw [typeLookup_type, builtinLookup_eq_fast]; kernel_rfl
theorem called_ba : TypeCalled "bytearray" "bytearray.__new__" "bytearray.__init__" :=
  ⟨by decide +kernel, by decide +kernel, ⟨_, _, mro_ba⟩, madeBy_type mro_ba lookup_ba_new (by decide +kernel), by decide +kernel, by rw [isSubtype_type]; kernel_rfl, slot_bytearray_init⟩
theorem typeCall_ba_0 : checkTypeCall "bytearray" ⟨[], []⟩ = pure () := by kernel_rfl
theorem typeCall_ba_1 (a : Value) : checkTypeCall "bytearray" ⟨[a], []⟩ = pure () := by kernel_rfl
theorem newCall_ba_0 : checkBuiltinCall "bytearray.__new__" ⟨[.type "bytearray"], []⟩ = pure () := by kernel_rfl
theorem newCall_ba_1 (a : Value) : checkBuiltinCall "bytearray.__new__" ⟨[.type "bytearray", a], []⟩ = pure () := by kernel_rfl
theorem plain_ba_new : plainId "bytearray.__new__" = true := by decide +kernel
theorem sub_ba_self : isSubtype (.type "bytearray") (.type "bytearray") = pure true := by rw [isSubtype_type]; kernel_rfl
theorem entry_alias (tb : String → Option Builtin) (b : Builtin) (h1 : tb "bytearray.__new__" = none) (h5 : tb "list.__new__" = some b) : entryFor tb "bytearray.__new__" = some b := by
  have e2 : ("bytearray.__new__".map fun c => if c.isAlphanum || c == '_' || c == '.' then c else '_') = "bytearray.__new__" := by decide +kernel
  have e3 : "bytearray.__new__".cutAt '#' = ["bytearray.__new__"] := by decide +kernel
  have e4 : Manifest.canonical "bytearray.__new__" = "list.__new__" := by rw [PySem.W.S.canonicalZ_eq]; decide +kernel
  have e6 : ("list.__new__" ++ "" : String) = "list.__new__" := by decide +kernel
  unfold entryFor
  rw [h1]
  simp only [e3]
  rw [e2]
  rw [e4, e6, h5]
theorem entry_ba_new : entryFor table "bytearray.__new__" = some Builtin.«list.__new__» :=
  entry_alias table _ (by rw [table_eq_tree]; kernel_rfl) (by rw [table_eq_tree]; kernel_rfl)
end Mine.BF
end
section
open PySem PySem.W PyProof.Rows PySem.Calls Builtin
set_option Elab.async false
namespace Mine
set_option maxRecDepth 100000
namespace BF
theorem lookup_release : typeLookup (.type "bytearray") "__release_buffer__" = pure (some (.builtin "bytearray.__release_buffer__")) := by rw [typeLookup_type, builtinLookup_eq_fast]; kernel_rfl
theorem lookup_buffer : typeLookup (.type "bytearray") "__buffer__" = pure (some (.builtin "bytearray.__buffer__")) := by rw [typeLookup_type, builtinLookup_eq_fast]; kernel_rfl
theorem lookup_bytes_buffer : typeLookup (.type "bytes") "__buffer__" = pure (some (.builtin "bytes.__buffer__")) := by rw [typeLookup_type, builtinLookup_eq_fast]; kernel_rfl
theorem lookup_bytes_release : typeLookup (.type "bytes") "__release_buffer__" = pure none := by rw [typeLookup_type, builtinLookup_eq_fast]; kernel_rfl
theorem no_index_bytes : typeLookup (.type "bytes") "__index__" = pure none := by rw [typeLookup_type, builtinLookup_eq_fast]; kernel_rfl
theorem no_index_ba : typeLookup (.type "bytearray") "__index__" = pure none := by rw [typeLookup_type, builtinLookup_eq_fast]; kernel_rfl
theorem sub_bytes_bytes : isSubtype (.type "bytes") (.type "bytes") = pure true := by rw [isSubtype_type]; kernel_rfl
end BF
section
variable {M : Model} {A : Around} {E : Value → Shared → Prop} {s : Shared} {a : Addr} {l : List UInt8}
theorem typeIs_ba (h : s.heap.get? a = some (baO l)) : s.TypeIs (.ref a) "bytearray" := ⟨_, h, rfl⟩
theorem slotOwn_ba (h : s.heap.get? a = some (baO l)) {Q : Bool → Shared → Prop} (q : Q true s) : wpAny M A (Bytes.slotIsOwn (.ref a) "__release_buffer__") Q E s := by
  unfold Bytes.slotIsOwn
  refine wpAny_bind (wpAny_specialOf (typeIs_ba h) BF.lookup_release ?_)
  show wpAny M A (if _ then _ else _) Q E s
  rw [if_neg (by decide +kernel)]
  rw [show ("bytearray.__release_buffer__".dropRight ("__release_buffer__".length + 1)) = "bytearray" from by decide +kernel]
  exact wpAny_isInstance (typeIs_ba h) BF.sub_ba_self q
theorem slotOwnB_ba (h : s.heap.get? a = some (baO l)) {Q : Bool → Shared → Prop} (q : Q true s) : wpAny M A (Bytes.slotIsOwn (.ref a) "__buffer__") Q E s := by
  unfold Bytes.slotIsOwn
  refine wpAny_bind (wpAny_specialOf (typeIs_ba h) BF.lookup_buffer ?_)
  show wpAny M A (if _ then _ else _) Q E s
  rw [if_neg (by decide +kernel)]
  rw [show ("bytearray.__buffer__".dropRight ("__buffer__".length + 1)) = "bytearray" from by decide +kernel]
  exact wpAny_isInstance (typeIs_ba h) BF.sub_ba_self q
theorem slotOwnB_bytes {b : Array UInt8} {t : Tok} {Q : Bool → Shared → Prop} (q : Q true s) : wpAny M A (Bytes.slotIsOwn (.bytes b t) "__buffer__") Q E s := by
  unfold Bytes.slotIsOwn
  refine wpAny_bind (wpAny_specialOf (typeIs_bytes s b t) BF.lookup_bytes_buffer ?_)
  show wpAny M A (if _ then _ else _) Q E s
  rw [if_neg (by decide +kernel)]
  rw [show ("bytes.__buffer__".dropRight ("__buffer__".length + 1)) = "bytes" from by decide +kernel]
  exact wpAny_isInstance (typeIs_bytes s b t) BF.sub_bytes_bytes q
theorem slotOwn_bytes {b : Array UInt8} {t : Tok} {Q : Bool → Shared → Prop} (q : Q true s) : wpAny M A (Bytes.slotIsOwn (.bytes b t) "__release_buffer__") Q E s := by
  unfold Bytes.slotIsOwn
  refine wpAny_bind (wpAny_specialOf (typeIs_bytes s b t) BF.lookup_bytes_release ?_)
  exact wpAny_pure q
theorem ownRelease_ba (h : s.heap.get? a = some (baO l)) {Q : Bool → Shared → Prop} (q : Q false s) : wpAny M A (Bytes.ownRelease (.ref a)) Q E s := by
  unfold Bytes.ownRelease
  exact wpAny_bind (slotOwn_ba h (wpAny_pure q))
theorem ownRelease_bytes {b : Array UInt8} {t : Tok} {Q : Bool → Shared → Prop} (q : Q false s) : wpAny M A (Bytes.ownRelease (.bytes b t)) Q E s := by
  unfold Bytes.ownRelease
  exact wpAny_bind (slotOwn_bytes (wpAny_pure q))
theorem payload_ba (h : s.heap.get? a = some (baO l)) {Q : Array UInt8 → Shared → Prop} (q : Q l.toArray s) : wpAny M A (Bytes.payload (.ref a)) Q E s := by
  unfold Bytes.payload Bytes.payload?
  exact wpAny_bind (wpAny_bind (wpAny_load h (wpAny_pure (wpAny_pure q))))
theorem payload_bytes {b : Array UInt8} {t : Tok} {Q : Array UInt8 → Shared → Prop} (q : Q b s) : wpAny M A (Bytes.payload (.bytes b t)) Q E s := wpAny_bind (wpAny_pure (wpAny_pure q))
theorem buffer_ba {id : String} {full : Bool} (h : s.heap.get? a = some (baO l)) {Q : Option (Array UInt8) → Shared → Prop} (q : Q (some l.toArray) s) : wpAny M A (Bytes.buffer? id (.ref a) full) Q E s := by
  unfold Bytes.buffer?
  refine wpAny_bind (wpAny_specialOf (typeIs_ba h) BF.lookup_buffer ?_)
  refine wpAny_bind (slotOwnB_ba h ?_)
  rw [if_neg (by decide)]
  refine wpAny_bind (wpAny_specialOf (typeIs_ba h) BF.lookup_buffer ?_)
  refine wpAny_bind (ownRelease_ba h ?_)
  rw [if_neg (by decide)]
  exact wpAny_bind (payload_ba h (wpAny_pure q))
theorem buffer_bytes {id : String} {full : Bool} {b : Array UInt8} {t : Tok} {Q : Option (Array UInt8) → Shared → Prop} (q : Q (some b) s) : wpAny M A (Bytes.buffer? id (.bytes b t) full) Q E s := by
  unfold Bytes.buffer?
  refine wpAny_bind (wpAny_specialOf (typeIs_bytes s b t) BF.lookup_bytes_buffer ?_)
  refine wpAny_bind (slotOwnB_bytes ?_)
  rw [if_neg (by decide)]
  refine wpAny_bind (wpAny_specialOf (typeIs_bytes s b t) BF.lookup_bytes_buffer ?_)
  refine wpAny_bind (ownRelease_bytes ?_)
  rw [if_neg (by decide)]
  exact wpAny_bind (payload_bytes (wpAny_pure q))
theorem bufferQuiet_ba {id : String} (h : s.heap.get? a = some (baO l)) {Q : Option (Array UInt8) → Shared → Prop} (q : Q (some l.toArray) s) : wpAny M A (Bytes.bufferQuiet? id (.ref a)) Q E s := by
  unfold Bytes.bufferQuiet?
  exact wpAny_bind (wpAny_attempt (buffer_ba h (wpAny_pure q)))
theorem exportsOf_ba (h : s.heap.get? a = some (baO l)) {Q : Nat → Shared → Prop} (q : Q 0 s) : wpAny M A (Bytes.exportsOf (.ref a)) Q E s := by
  unfold Bytes.exportsOf
  exact wpAny_bind (wpAny_load h (wpAny_pure q))
/-- the heap behind a write into a bytearray -/
theorem write_ba (h : s.heap.get? a = some (baO l)) {l' : List UInt8} (f : Array UInt8 → Array UInt8) (hf : f l.toArray = l'.toArray) (hz : l'.length ≤ sizeLine) {Q : Unit → Shared → Prop}
    (q : ∀ h', h'.get? a = some (baO l') → (∀ b o, b ≠ a → s.heap.get? b = some o → h'.get? b = some o) → Q () { s with heap := h' }) : wpAny M A (Bytes.write (.ref a) f) Q E s := by
  show wpAny M A (updateBytearray a f) Q E s
  unfold updateBytearray
  refine wpAny_bind (wpAny_load h ?_)
  have hu : (s.heap.update a (Obj.mapBytearray f)).get? a = some (baO l') := by
    have := Heap.get?_update_self (Obj.mapBytearray f) h rfl
    rw [this]
    show some (Obj.mapBytearray f (baO l)) = _
    unfold baO Obj.mapBytearray
    dsimp only
    rw [hf]
  refine wpAny_bind (wpAny_update h ?_)
  refine wpAny_lookBehind hu ?_ ?_
  · show Data.pastItsLine (.bytearray l'.toArray 0) = none
    simp only [Data.pastItsLine, List.size_toArray]
    first | (rw [if_neg (by omega)]) | (simp only [ite_eq_right_iff, reduceCtorEq, imp_false]; omega)
  · exact q _ hu fun b o hb e => (Heap.get?_update_other _ _ (Ne.symm hb)).trans e
theorem checkResize_ba (h : s.heap.get? a = some (baO l)) {Q : Unit → Shared → Prop} (q : Q () s) : wpC M A (Bytes.checkResize (.ref a)) Q s := by
  unfold Bytes.checkResize
  refine c_bind (m := (Bytes.exported (.ref a) <||> (do return (← Bytes.exportsOf (.ref a)) > 0))) ?_
  show wpC M A (Bytes.exported (.ref a) >>= _) _ s
  refine c_bind (c_exported ?_)
  show wpC M A (Bytes.exportsOf (.ref a) >>= _) _ s
  refine c_bindAny (exportsOf_ba h ?_)
  exact c_pure (c_pure q)
theorem asIndex_int {i : Int} {t : Tok} {Q : Int → Shared → Prop} (q : Q i s) : wpAny M A (asIndex (.int i t)) Q E s := by
  unfold asIndex
  exact wpAny_bind (wpAny_pure (wpAny_pure q))
theorem byteValue_int {i : Int} {t : Tok} {Q : UInt8 → Shared → Prop} (h0 : 0 ≤ i) (h1 : i < 256) (q : Q i.toNat.toUInt8 s) : wpAny M A (Bytes.byteValue (.int i t)) Q E s := by
  unfold Bytes.byteValue
  refine wpAny_bind (asIndex_int ?_)
  rw [if_neg (by simp only [Bool.or_eq_true, decide_eq_true_eq]; omega)]
  exact wpAny_pure q
end
end Mine
end
section
open PySem PySem.W PyProof.Rows PySem.Calls Builtin
set_option Elab.async false
namespace Mine
set_option maxRecDepth 100000
namespace BF
theorem no_bytes_ba : typeLookup (.type "bytearray") "__bytes__" = pure none := by rw [typeLookup_type, builtinLookup_eq_fast]; kernel_rfl
theorem fill_add_ba : fillsNumberSlot (.type "bytearray") "add" = pure false := PySem.fillsNumberSlot_seq (id := "bytearray.__add__") (r := none) slot_bytearray_add.lookup (by decide +kernel) (by rw [typeLookup_type, builtinLookup_eq_fast]; kernel_rfl) rfl
theorem seq_add_ba : seqSlot? (.type "bytearray") "__add__" = pure (some (.builtin "bytearray.__add__")) := PySem.seqSlot_of slot_bytearray_add.lookup (by decide +kernel)
theorem init_bind0 : Bytes.bindOptional "bytearray.__init__" "bytearray" ["source", "encoding", "errors"] [] [] = pure [none, none, none] := by kernel_rfl
theorem init_bind1 (v : Value) : Bytes.bindOptional "bytearray.__init__" "bytearray" ["source", "encoding", "errors"] [v] [] = pure [some v, none, none] := by kernel_rfl
end BF

/-- the cut of a list of octets, as Python cuts it -/
def cutB (l : List UInt8) (lo hi : Option Int) : List UInt8 := (l.drop (lo.elim 0 (clipAt l.length))).take (hi.elim l.length (clipAt l.length) - lo.elim 0 (clipAt l.length))
theorem cutB_length_le (l : List UInt8) (lo hi : Option Int) : (cutB l lo hi).length ≤ l.length := by
  unfold cutB; rw [List.length_take, List.length_drop]; omega
theorem sliced_cutB (l : List UInt8) (lo hi : Option Int) : Bytes.sliced l.toArray (sliceBounds lo hi none l.toArray.size).1 (sliceBounds lo hi none l.toArray.size).2.1 (sliceBounds lo hi none l.toArray.size).2.2 = (cutB l lo hi).toArray := by
  have h := KBc.picked_eq l.toArray lo hi
  unfold KBy.picked at h
  rw [h]
  simp [cutB]

section
variable {prog : Program} {w : World} {A : Around} {E : Value → Shared → Prop} {s : Shared} {a : Addr} {l : List UInt8}

theorem seqIndex_at {i : Int} {n : Nat} (h0 : 0 ≤ i) (h1 : i < n) : seqIndex? i n = some i.toNat := by
  have hn : ¬ i < 0 := by omega
  simp [seqIndex?, hn, h0, h1]

theorem len_ba {Q : Value → Shared → Prop} (h : s.heap.get? a = some (baO l)) (hz : l.length ≤ 16777216) (q : Q (.int l.length (s.toks + 1)) { s with toks := s.toks + 1 + 1 }) :
    wpAny (model prog w) A (call (.builtin "len") [.ref a]) Q E s := by
  refine call_len_meets (S := fun A R s => s.heap.get? a = some (baO l) ∧ R (.ok (.ret (.int l.length s.toks))) { s with toks := s.toks + 1 }) (typeIs_ba h) BF.slot_bytearray_len BF.entry_bytearray_len (BF.args_bytearray_len_1 _) ?_ (by omega) (by omega) (fun Q' hq => ⟨h, hq⟩) q
  refine .of_wp fun prog w A R s hS => ?_
  obtain ⟨h, hr⟩ := hS
  show wpAny _ _ (Bytes.payload (.ref a) >>= _) _ _ _
  refine wpAny_bind (payload_ba h ?_)
  show wpAny _ _ (retInt (l.toArray.size : Nat)) _ _ _
  refine wpAny_bind (wpAny_mkInt (wpAny_pure ⟨_, rfl, ?_⟩))
  simpa using hr

theorem subscript_int {M : Model} {i : Int} {t : Tok} {Q : Option Int → Shared → Prop} (hr : Bytes.fitsIndex i = true) (q : Q (some i) s) : wpAny M A (Bytes.subscript? (.int i t)) Q E s := by
  unfold Bytes.subscript?
  refine wpAny_bind (wpAny_specialOf (typeIs_int s i t) F.slot_int_index.lookup ?_)
  show wpAny M A (if (!Bytes.fitsIndex i) = true then _ else pure (some i)) _ E s
  rw [hr]
  exact wpAny_pure q

theorem getItem_ba {i : Int} {t : Tok} {Q : Value → Shared → Prop} (h : s.heap.get? a = some (baO l)) (hz : l.length ≤ 16777216) (h0 : 0 ≤ i) (h1 : i < l.length)
    (q : Q (.int (l.getD i.toNat 0).toNat s.toks) { s with toks := s.toks + 1 }) : wpAny (model prog w) A (getItem (.ref a) (.int i t)) Q E s := by
  refine getItem_meets (S := fun A R s => s.heap.get? a = some (baO l) ∧ R (.ok (.ret (.int (l.getD i.toNat 0).toNat s.toks))) { s with toks := s.toks + 1 }) (typeIs_ba h) (by decide) BF.slot_bytearray_getitem BF.entry_bytearray_getitem (BF.args_bytearray_getitem_2 _ _) ?_ ⟨h, q⟩
  refine .of_wp fun prog w A R s hS => ?_
  obtain ⟨h, hr⟩ := hS
  show wpAny _ _ (Bytes.subscript? (.int i t) >>= _) _ _ _
  refine wpAny_bind (subscript_int (by simp only [Bytes.fitsIndex, Bool.and_eq_true, decide_eq_true_eq]; omega) ?_)
  refine wpAny_bind (payload_ba h ?_)
  have hl : i.toNat < l.length := by omega
  have e : (seqIndex? i l.toArray.size).bind (l.toArray[·]?) = some (l.getD i.toNat 0) := by
    rw [List.size_toArray, seqIndex_at h0 h1]
    simp [hl]
  show wpAny _ _ (match (seqIndex? i l.toArray.size).bind (l.toArray[·]?) with | some x => retInt x.toNat | none => _) _ _ _
  rw [e]
  exact wpAny_bind (wpAny_mkInt (wpAny_pure ⟨_, rfl, hr⟩))

theorem slice_no_index' : typeLookup (.type "slice") "__index__" = pure none := slice_no_index

theorem getSlice_ba {b : Addr} {lv uv : Value} {lo hi : Option Int} {Q : Value → Shared → Prop} (h : s.heap.get? a = some (baO l)) (hz : l.length ≤ 16777216) (hl : IsPart lv lo) (hu : IsPart uv hi) (hS : s.heap.IsSliceOf b lv uv .none)
    (q : Q (.ref s.heap.objs.size) { s with heap := s.heap.push (baO (cutB l lo hi)) }) : wpAny (model prog w) A (getItem (.ref a) (.ref b)) Q E s := by
  refine getItem_meets (S := fun A R s => (s.heap.get? a = some (baO l) ∧ s.heap.IsSliceOf b lv uv .none) ∧ R (.ok (.ret (.ref s.heap.objs.size))) { s with heap := s.heap.push (baO (cutB l lo hi)) }) (typeIs_ba h) (by decide) BF.slot_bytearray_getitem BF.entry_bytearray_getitem (BF.args_bytearray_getitem_2 _ _) ?_ ⟨⟨h, hS⟩, q⟩
  refine .of_wp fun prog w A R s hS => ?_
  obtain ⟨⟨h, hS⟩, hr⟩ := hS
  obtain ⟨o, ho, hc, hd⟩ := hS
  have hT : s.TypeIs (.ref b) "slice" := ⟨o, ho, hc⟩
  show wpAny _ _ (Bytes.subscript? (.ref b) >>= _) _ _ _
  refine wpAny_bind ?_
  unfold Bytes.subscript?
  refine wpAny_bind (wpAny_specialOf hT slice_no_index (wpAny_pure ?_))
  refine wpAny_bind (wpAny_typeOf hT ?_)
  show wpAny _ _ (Bytes.sliceParts (.ref b) >>= fun r => _) _ _ s
  refine wpAny_bind ?_
  unfold Bytes.sliceParts
  refine wpAny_bind (wpAny_field (x := .none) ho hd rfl ?_)
  kby_none
  refine wpAny_ite (KBy.ite_no (show ¬ ((Value.none == rawInt 0) = true) from Bool.false_ne_true) ?_)
  refine wpAny_bind (wpAny_field (x := lv) ho hd rfl ?_)
  have go : wpAny (model prog w) A.in1 (sliceIndices (rawPart lo) (rawPart hi) (rawPart none) l.toArray.size) (fun r s' => r = sliceBounds lo hi none l.toArray.size ∧ s' = s) (fun _ _ => False) s :=
    wpAny_of_eq (sliceIndices_raw lo hi none l.toArray.size (fun e => nomatch e)) ⟨rfl, rfl⟩
  cases hl <;> cases hu <;> (first
    | (kby_none; (refine wpAny_bind (wpAny_field (x := .none) ho hd rfl ?_)); kby_none)
    | (kby_none; (refine wpAny_bind (wpAny_field (x := .int _ _) ho hd rfl ?_)); kby_int)
    | (kby_int; (refine wpAny_bind (wpAny_field (x := .none) ho hd rfl ?_)); kby_none)
    | (kby_int; (refine wpAny_bind (wpAny_field (x := .int _ _) ho hd rfl ?_)); kby_int)) <;> refine wpAny_pure ?_
  all_goals
    refine wpAny_bind (payload_ba h ?_)
    refine wpAny_bind (wpAny_mono go (fun r s' hr => ?_) fun _ _ e => e.elim)
    obtain ⟨hr1, hr2⟩ := hr
    subst hr1 hr2
    dsimp only
    rw [sliced_cutB]
    refine wpAny_bind (wpAny_newObj_type (wpAny_pure ⟨_, rfl, hr⟩) ?_)
    show (cutB l _ _).toArray.size ≤ sizeLine
    rw [List.size_toArray, sizeLine_eq]
    exact Nat.le_trans (cutB_length_le _ _ _) hz

theorem setItem_ba {i x : Int} {t u : Tok} {Q : Unit → Shared → Prop} (h : s.heap.get? a = some (baO l)) (hz : l.length ≤ 16777216) (h0 : 0 ≤ i) (h1 : i < l.length) (hx : 0 ≤ x ∧ x < 256)
    (q : ∀ h', h'.get? a = some (baO (l.set i.toNat x.toNat.toUInt8)) → (∀ b o, b ≠ a → s.heap.get? b = some o → h'.get? b = some o) → Q () { s with heap := h' }) :
    wpAny (model prog w) A (setItem (.ref a) (.int i t) (.int x u)) Q E s := by
  unfold setItem
  refine wpAny_holding ?_
  refine wpAny_bind (wpAny_sequenceKey (typeIs_ba h) (by decide) ?_)
  refine wpAny_bind (wpAny_callSpecial?_slot (name := Str.ofString "__setitem__") (typeIs_ba h) BF.slot_bytearray_setitem
    (wpAny_call_entry BF.slot_bytearray_setitem (typeIs_ba h) BF.entry_bytearray_setitem ?_ (BF.args_bytearray_setitem_3 _ _ _)))
  show wpAny _ _ (Bytes.subscript? (.int i t) >>= _) _ _ s
  refine wpAny_bind (subscript_int (by simp only [Bytes.fitsIndex, Bool.and_eq_true, decide_eq_true_eq]; omega) ?_)
  refine wpAny_bind (byteValue_int hx.1 hx.2 ?_)
  refine wpAny_bind (payload_ba h ?_)
  show wpAny _ _ (match seqIndex? i l.toArray.size with | some k => _ | none => _) _ _ _
  rw [List.size_toArray, seqIndex_at h0 h1]
  refine wpAny_bind (write_ba h (l' := l.set i.toNat x.toNat.toUInt8) _ (by simp) (by rw [List.length_set, sizeLine_eq]; exact hz) fun h' e k => ?_)
  exact wpAny_pure ⟨_, rfl, wpAny_pure (q h' e k)⟩

theorem add_ba {b : Addr} {r : List UInt8} {Q : Value → Shared → Prop} (h : s.heap.get? a = some (baO l)) (h2 : s.heap.get? b = some (baO r)) (hz : l.length + r.length ≤ 16777216)
    (q : Q (.ref s.heap.objs.size) { s with heap := s.heap.push (baO (l ++ r)) }) : wpAny (model prog w) A (binaryOp .Add (.ref a) (.ref b)) Q E s := by
  refine concat_meets (S := fun A R s => (s.heap.get? a = some (baO l) ∧ s.heap.get? b = some (baO r)) ∧ R (.ok (.ret (.ref s.heap.objs.size))) { s with heap := s.heap.push (baO (l ++ r)) }) (typeIs_ba h) (typeIs_ba h2) BF.fill_add_ba BF.seq_add_ba BF.slot_bytearray_add BF.entry_bytearray_add (BF.args_bytearray_add_2 _ _) ?_ ⟨⟨h, h2⟩, q⟩
  refine .of_wp fun prog w A R s hS => ?_
  obtain ⟨⟨h, h2⟩, hr⟩ := hS
  show wpAny _ _ (Bytes.buffer? "bytearray.__add__" (.ref a) >>= _) _ _ _
  refine wpAny_bind (buffer_ba h ?_)
  refine wpAny_bind (bufferQuiet_ba h2 ?_)
  show wpAny _ _ (if Bytes.tooLong (l.toArray.size + r.toArray.size) = true then _ else _) _ _ _
  rw [if_neg (by unfold Bytes.tooLong; rw [List.size_toArray, List.size_toArray, sizeLine_eq]; simp; omega)]
  refine wpAny_bind ?_
  rw [List.append_toArray]
  refine wpAny_newObj_type (wpAny_pure ⟨_, rfl, hr⟩) ?_
  show (l ++ r).toArray.size ≤ sizeLine
  rw [List.size_toArray, List.length_append, sizeLine_eq]; exact hz

theorem code_bytes_ba {Q : Value → Shared → Prop} (h : s.heap.get? a = some (baO l)) (hz : l.length ≤ 16777216)
    (q : Q (.bytes l.toArray s.toks) { s with toks := s.toks + 1 }) : codeAny (model prog w) A (.call (.builtin "bytes.__new__") ⟨[.type "bytes", .ref a], []⟩) (wants Q E) s := by
  refine codeAny_of_tree ?_
  show wpAny _ A.in1 (do checkBuiltinCall "bytes.__new__" ⟨[.type "bytes", .ref a], []⟩; again (.builtin "bytes.__new__" ⟨[.type "bytes", .ref a], []⟩)) _ _ s
  refine wpAny_bind (wpAny_of_eq (F.bm_newCall _) (wpAny_pure ⟨plainId_quiet F.bm_plain _, codeAny_builtin F.bm_entry ?_⟩))
  rw [Around.under_plainId F.bm_plain _]
  have hT := typeIs_ba h
  unfold Builtin.«bytes.__new__»
  refine wpAny_bind (wpAny_of_eq (a := true) rfl ?_)
  refine bm_if_false rfl ?_
  refine wpAny_bind (wpAny_of_eq F.bm_sub ?_)
  refine bm_if_false rfl ?_
  refine wpAny_bind (wpAny_of_eq (F.bm_bind _) ?_)
  refine wpAny_bind (wpAny_of_eq (a := ()) rfl ?_)
  refine wpAny_bind (wpAny_of_eq (a := ()) rfl ?_)
  refine bm_if_false rfl ?_
  refine wpAny_bind (wpAny_specialOf hT BF.no_bytes_ba ?_)
  refine wpAny_bind (wpAny_bind ?_)
  show wpAny _ _ (load a >>= _) _ _ _
  refine wpAny_bind (wpAny_load h ?_)
  refine wpAny_pure (wpAny_pure ?_)
  refine bm_if_false rfl ?_
  refine wpAny_bind (wpAny_specialOf hT BF.no_index_ba ?_)
  refine bm_if_true rfl ?_
  first
    | show wpAny _ _ (Builtin.Bytes.buffer? "bytes.__new__" (.ref a) true >>= _) _ _ _
    | (refine wpAny_bind ?_; show wpAny _ _ (Builtin.Bytes.buffer? "bytes.__new__" (.ref a) true >>= _) _ _ _)
  refine wpAny_bind (buffer_ba h ?_)
  refine wpAny_bind (wpAny_rule ?_)
  refine wpAny_bind (wpAny_mkBytes ?_ (by rw [List.size_toArray, sizeLine_eq]; exact hz))
  show wpAny _ _ (if (Value.type "bytes" == Value.type "bytes") = true then _ else _) _ _ _
  refine bm_if_true (by decide) ?_
  first
    | exact wpAny_pure q
    | exact wpAny_bind (wpAny_pure (wpAny_pure q))
    | exact wpAny_bind (wpAny_bind (wpAny_pure (wpAny_pure (wpAny_pure q))))

theorem call_bytes_ba {Q : Value → Shared → Prop} (h : s.heap.get? a = some (baO l)) (hz : l.length ≤ 16777216)
    (q : Q (.bytes l.toArray s.toks) { s with toks := s.toks + 1 }) : wpAny (model prog w) A (call (.type "bytes") [.ref a]) Q E s := by
  refine callType_codes (Q₁ := fun obj s₁ => s₁.TypeIs obj "bytes" ∧ Q obj s₁) F.bm_called (F.bm_typeCall _) F.entry_object_init
    (code_bytes_ba h hz ⟨PySem.W.typeIs_bytes _ _ _, q⟩) fun obj s₁ h₁ => ?_
  exact ⟨h₁.1, F.args_object_init_2 obj _, object_init_meets F.bm_called.init.lookup F.bm_called.made (by decide) prog w A.in1 _ s₁ ⟨h₁.1, rfl, h₁.2⟩⟩
end
end Mine
end
section
open PySem PySem.W PyProof.Rows PySem.Calls Builtin
set_option Elab.async false
namespace Mine
set_option maxRecDepth 100000
theorem c_if_false {α : Type} {M : Model} {A : Around} {s : Shared} {c : Bool} {a b : Sem α} {Q : α → Shared → Prop} (hc : c = false) (h : wpC M A b Q s) : wpC M A (if c = true then a else b) Q s := by
  subst hc
  exact h
theorem c_if_true {α : Type} {M : Model} {A : Around} {s : Shared} {c : Bool} {a b : Sem α} {Q : α → Shared → Prop} (hc : c = true) (h : wpC M A a Q s) : wpC M A (if c = true then a else b) Q s := by
  subst hc
  exact h
def baArgs : Option (Array UInt8 × Tok) → List Value
  | some p => [.bytes p.1 p.2]
  | none => []
def baL : Option (Array UInt8 × Tok) → List UInt8
  | some p => p.1.toList
  | none => []
theorem holder_of {id : String} {args : Args} (h : holderIds.contains id = false) : holder (.builtin id args) = false := h
section
variable {prog : Program} {w : World} {A : Around} {E : Value → Shared → Prop} {s : Shared} {a : Addr} {l : List UInt8}

theorem codeC_call_builtin {id : String} {args : Args} {b : Builtin} {R : Flow → Shared → Prop} (hp : plainId id = true) (hh : holder (.builtin id args) = false) (hb : entryFor table id = some b)
    (hc : ∀ Q : Unit → Shared → Prop, Q () s → wpAny (model prog w) A.in1 (checkBuiltinCall id args) Q nE s)
    (h : wpC (model prog w) A.in1 (b args) (fun fin s' => match fin with | .done f => R f s' | .again c' => c'.quiet = true ∧ codeC (model prog w) A c' R s') s) :
    codeC (model prog w) A (.call (.builtin id) args) R s := by
  refine codeC_of_tree rfl ?_
  show wpC _ A.in1 (do checkBuiltinCall id args; again (.builtin id args)) _ s
  refine c_bindAny (hc _ (c_pure ⟨plainId_quiet hp _, codeC_builtin hh hb ?_⟩))
  rw [Around.under_plainId hp _]
  exact h

theorem c_append {x : Int} {t : Tok} {Q : Value → Shared → Prop} (h : s.heap.get? a = some (baO l)) (hz : l.length < 16777216) (hx : 0 ≤ x ∧ x < 256)
    (q : ∀ h', h'.get? a = some (baO (l ++ [x.toNat.toUInt8])) → (∀ b o, b ≠ a → s.heap.get? b = some o → h'.get? b = some o) → Q .none { s with heap := h' }) :
    wpC (model prog w) A (call (.builtin "bytearray.append") [.ref a, .int x t]) Q s := by
  refine c_call (codeC_call_builtin BF.slot_bytearray_append.plain (holder_of (by decide +kernel)) BF.entry_bytearray_append
    (fun Q hQ => BF.slot_bytearray_append.check _ _ _ _ _ _ _ _ (typeIs_ba h) (BF.args_bytearray_append_2 _ _) hQ) ?_)
  unfold Builtin.«bytearray.append»
  refine c_bindAny (m := selfAndOne "bytearray.append" _) (wpAny_pure ?_)
  refine c_bindAny (byteValue_int hx.1 hx.2 ?_)
  refine c_bind (checkResize_ba h ?_)
  refine c_bindAny (write_ba h (l' := l ++ [x.toNat.toUInt8]) _ (by simp) (by rw [List.length_append, sizeLine_eq]; simp; omega) fun h' e k => ?_)
  exact c_pure ⟨_, rfl, q h' e k⟩

theorem code_ba_new (as : List Value) (hcheck : checkBuiltinCall "bytearray.__new__" ⟨.type "bytearray" :: as, []⟩ = pure ()) {Q₁ : Value → Shared → Prop}
    (h : Q₁ (.ref s.heap.objs.size) { s with heap := s.heap.push (baO []) }) :
    codeAny (model prog w) A (.call (.builtin "bytearray.__new__") ⟨.type "bytearray" :: as, []⟩) (wants Q₁ E) s := by
  refine codeAny_of_tree ?_
  show wpAny _ A.in1 (do checkBuiltinCall "bytearray.__new__" ⟨.type "bytearray" :: as, []⟩; again (.builtin "bytearray.__new__" ⟨.type "bytearray" :: as, []⟩)) _ _ s
  refine wpAny_bind (wpAny_of_eq hcheck (wpAny_pure ⟨plainId_quiet BF.plain_ba_new _, codeAny_builtin_stack BF.entry_ba_new rfl fun p st => ?_⟩))
  rw [Around.under_plainId BF.plain_ba_new _]
  have hsub := BF.sub_ba_self
  have hown : ("bytearray.__new__".splitOn ".__new__").headD "" = "bytearray" := by rw [split_bytearray]; rfl
  obtain ⟨hp, g, d, tk, os⟩ := s
  simp only [hown]
  wp_walk
  exact h

theorem init_ba {v : Option (Array UInt8 × Tok)} (h : s.heap.get? a = some (baO [])) (hz : ∀ p, v = some p → p.1.size ≤ sizeLine) {R : Flow → Shared → Prop}
    (q : ∀ h', h'.get? a = some (baO (baL v)) → (∀ b o, b ≠ a → s.heap.get? b = some o → h'.get? b = some o) → R (.ret .none) { s with heap := h' }) :
    codeC (model prog w) A (.call (.builtin "bytearray.__init__") ⟨.ref a :: (baArgs v), []⟩) R s := by
  refine codeC_call_builtin BF.slot_bytearray_init.plain (holder_of (by decide +kernel)) BF.entry_bytearray_init
    (fun Q hQ => BF.slot_bytearray_init.check _ _ _ _ _ _ _ _ (typeIs_ba h) (by cases v with | none => exact BF.args_bytearray_init_1 _ | some p => exact BF.args_bytearray_init_2 _ _) hQ) ?_
  unfold Builtin.«bytearray.__init__»
  refine c_bindAny (ownRelease_ba h ?_)
  refine c_if_false rfl ?_
  cases v with
  | none =>
    refine c_bindAny (wpAny_of_eq BF.init_bind0 ?_)
    refine c_bindAny (wpAny_of_eq (a := ()) rfl ?_)
    refine c_bindAny (wpAny_of_eq (a := ()) rfl ?_)
    refine c_bind (m := (Bytes.exported (.ref a) <||> (do return (← Bytes.exportsOf (.ref a)) > 0))) ?_
    show wpC _ _ (Bytes.exported (.ref a) >>= _) _ s
    refine c_bind (c_exported ?_)
    show wpC _ _ (Bytes.exportsOf (.ref a) >>= _) _ s
    refine c_bindAny (exportsOf_ba h ?_)
    refine c_pure ?_
    refine c_if_false rfl ?_
    refine c_bindAny (write_ba h (l' := []) _ rfl (Nat.zero_le _) fun h' e k => ?_)
    refine c_bindAny (wpAny_of_eq (a := ()) rfl ?_)
    exact c_pure (q h' e k)
  | some p =>
    obtain ⟨b, t⟩ := p
    have hb := hz _ rfl
    refine c_bindAny (wpAny_of_eq (BF.init_bind1 _) ?_)
    refine c_bindAny (wpAny_of_eq (a := ()) rfl ?_)
    refine c_bindAny (wpAny_of_eq (a := ()) rfl ?_)
    refine c_bind (m := (Bytes.exported (.ref a) <||> (do return (← Bytes.exportsOf (.ref a)) > 0))) ?_
    show wpC _ _ (Bytes.exported (.ref a) >>= _) _ s
    refine c_bind (c_exported ?_)
    show wpC _ _ (Bytes.exportsOf (.ref a) >>= _) _ s
    refine c_bindAny (exportsOf_ba h ?_)
    refine c_pure ?_
    refine c_if_false rfl ?_
    refine c_bindAny (write_ba h (l' := []) _ rfl (Nat.zero_le _) fun h' e k => ?_)
    refine c_bindAny (wpAny_of_eq (a := none) rfl ?_)
    refine c_if_false rfl ?_
    refine c_bindAny (wpAny_of_eq (a := ()) rfl ?_)
    refine c_bindAny (wpAny_specialOf (PySem.W.typeIs_bytes _ b t) BF.no_index_bytes ?_)
    refine c_if_false rfl ?_
    refine c_bindAny (buffer_bytes ?_)
    refine c_bindAny (wpAny_rule ?_)
    refine c_bindAny (write_ba e (l' := b.toList) _ (by simp) (by simpa using hb) fun h'' e' k' => ?_)
    exact c_pure (q h'' e' fun c o hc ho => k' c o hc (k c o hc ho))

theorem c_callSpecial {self : Value} {name : Str} {f g : Value} {args : List Value} {Q : Option Value → Shared → Prop} (h1 : ∀ Q : Option Value → Shared → Prop, Q (some f) s → wpAny (model prog w) A (specialOf self name) Q nE s)
    (h2 : ∀ Q : Value × List Value → Shared → Prop, Q (g, [self]) s → wpAny (model prog w) A (bindSpecial f self) Q nE s)
    (h : wpC (model prog w) A (call g (self :: args)) (fun v s' => Q (some v) s') s) : wpC (model prog w) A (callSpecial? self name args) Q s := by
  unfold callSpecial?
  refine c_bindAny (h1 _ (c_holding (c_bindAny (h2 _ (c_bind (c_mono h fun v s' h' => c_pure h'))))))

theorem c_newba {v : Option (Array UInt8 × Tok)} (hz : ∀ p, v = some p → p.1.size ≤ sizeLine) {Q : Value → Shared → Prop}
    (q : ∀ h', h'.get? s.heap.objs.size = some (baO (baL v)) → (∀ b o, s.heap.get? b = some o → h'.get? b = some o) → Q (.ref s.heap.objs.size) { s with heap := h' }) :
    wpC (model prog w) A (call (.type "bytearray") (baArgs v)) Q s := by
  have ft := BF.called_ba
  have hct : checkTypeCall "bytearray" ⟨(baArgs v), []⟩ = pure () := by
    cases v with
    | none => exact BF.typeCall_ba_0
    | some p => exact BF.typeCall_ba_1 _
  have hcn : checkBuiltinCall "bytearray.__new__" ⟨.type "bytearray" :: (baArgs v), []⟩ = pure () := by
    cases v with
    | none => exact BF.newCall_ba_0
    | some p => exact BF.newCall_ba_1 _
  obtain ⟨c, tl, hmro⟩ := ft.mro
  refine c_call (codeC_of_tree rfl ?_)
  show wpC _ _ (callAny (.type "bytearray") _) _ _
  refine c_pure ⟨Code.quiet_builtin _ (by decide +kernel), codeC_builtin (holder_of (by decide +kernel)) F.entry_type_call ?_⟩
  rw [Around.under_plain (weight_type_call_type "bytearray" _ []) rfl]
  unfold Builtin.«type.__call__»
  refine c_if_false rfl ?_
  refine c_if_false ft.canCreate ?_
  refine c_bindAny (wpAny_of_eq hct ?_)
  refine c_bindAny (wpAny_of_eq hmro ?_)
  refine c_if_false rfl ?_
  refine c_bindAny (wpAny_of_eq ft.made ?_)
  refine c_bindAny (wpAny_pure ?_)
  refine c_bindAny (wpAny_holding (wpAny_call (codeAny_mono (code_ba_new (E := nE) (Q₁ := fun obj s₁ => obj = .ref s.heap.objs.size ∧ s₁ = { s with heap := s.heap.push (baO []) }) _ hcn ⟨rfl, rfl⟩) fun r s₁ hr => ?_)))
  rcases r with e | (obj | _ | _ | _) <;> first | exact hr | exact hr.elim | skip
  obtain ⟨rfl, rfl⟩ := hr
  have hnew : (s.heap.push (baO [])).get? s.heap.objs.size = some (baO []) := Heap.get?_push_size _ rfl
  have hT : ({ s with heap := s.heap.push (baO []) } : Shared).TypeIs (.ref s.heap.objs.size) "bytearray" := typeIs_ba hnew
  refine c_bindAny (wpAny_isInstance hT ft.sub ?_)
  refine c_if_false rfl ?_
  refine c_bind (c_holding (c_callSpecial (f := .builtin "bytearray.__init__") (g := .builtin "bytearray.__init__") (fun Q hQ => wpAny_specialOf hT ft.init.lookup hQ) (fun Q hQ => wpAny_of_eq (ft.init.bind _) hQ) ?_))
  refine c_call (codeC_mono (init_ba (v := v) hnew hz fun h' e k => ?_) fun r s' h => h)
  refine ⟨.none, rfl, ?_⟩
  refine c_if_false rfl ?_
  exact c_pure ⟨_, rfl, q h' e fun b o hb => k b o (Nat.ne_of_lt (Heap.lt_size hb)) (Heap.get?_push_of_some _ hb)⟩
end
end Mine
end
section
open PySem PySem.W PyProof.Rows PySem.Calls Builtin
set_option Elab.async false
namespace Mine
set_option maxRecDepth 100000
section
variable {prog : Program} {w : World} {A : Around} {K : Frag} {C : Addr} {s : Shared} {h₀ : Heap} {L : Addr} {m : Str → Option Value} {news : List (Addr × Obj)}

theorem c_make {rest : List Value} {fI : Addr} {Q : Value → Shared → Prop} (X : K.In s.heap) (hm : makesIn K C = true)
    (hi : findIn K (.ref C) "__init__" = some (some (.ref fI))) (hf : typeIn K (.ref fI) = some (.type "function"))
    (h : ∀ x dx h', h'.get? x = some (instObj C dx) → h'.get? dx = some (dictOf [] 0) → (∀ b o, s.heap.get? b = some o → h'.get? b = some o) → (∀ b o, s.heap.get? b = some o → b < dx) → dx < x →
      codeC (model prog w) (A.under (.builtin "type.__call__" ⟨.ref C :: rest, []⟩)) (.call (.ref fI) ⟨.ref x :: rest, []⟩) (fun f s' => f = .ret .none ∧ Q (.ref x) s') { s with heap := h' }) :
    wpC (model prog w) A (call (.ref C) rest) Q s := by
  obtain ⟨hp, g, d, t, os⟩ := s
  have Y : Makes (model prog w) hp C := makes_of X hm
  have Y' := Y
  have hi' := looks_findIn (M := model prog w) X hi
  obtain ⟨⟨oc, od, cd, sl, hC, e1, e2, e4⟩, made, base, self, top, call, typ⟩ := Y
  refine c_call (codeC_of_tree rfl ?_)
  show wpC _ _ (callAny (.ref C) _) _ _
  refine c_bindAny (wpAny_load hC ?_)
  show wpC _ _ (callAny.viaDunder (.ref C) _) _ _
  unfold callAny.viaDunder
  refine c_bindAny (call.here ?_)
  refine c_bindAny (wpAny_of_eq (tc_bind _) ?_)
  refine c_bindAny (wpAny_of_eq (a := true) rfl ?_)
  refine c_if_true rfl ?_
  refine c_pure ⟨rfl, codeC_of_tree rfl ?_⟩
  show wpC _ _ (do checkBuiltinCall "type.__call__" ⟨.ref C :: rest, []⟩; again (.builtin "type.__call__" ⟨.ref C :: rest, []⟩)) _ _
  refine c_bindAny (check_slot tc_kind tc_split typ (tc_args _ _ _) ?_)
  refine c_pure ⟨Code.quiet_builtin _ (by decide +kernel), codeC_builtin (holder_of (by decide +kernel)) entry_typeCall ?_⟩
  unfold Builtin.«type.__call__»
  have hm : Looks (model prog w) hp (mroOf (.ref C)) cd.mro := ((Looks.ld (part := none) hC).andThen .now).andThen .now
  refine c_if_false rfl ?_
  refine c_bindAny (hm.here ?_)
  refine c_if_false e4 ?_
  refine c_bindAny (made.here ?_)
  refine c_bindAny (wpAny_pure ?_)
  refine c_bindAny (wpAny_holding (wpAny_call (new_K Y' hi' (.inl rfl) ?_)))
  have k : ∀ b o, hp.get? b = some o → ((hp.push emptyDict).push (instObj C hp.objs.size)).get? b = some o := fun b o e => Heap.get?_push_of_some _ (Heap.get?_push_of_some _ e)
  have hx : ((hp.push emptyDict).push (instObj C hp.objs.size)).get? (hp.objs.size + 1) = some (instObj C hp.objs.size) := by heap_get
  have hdx : ((hp.push emptyDict).push (instObj C hp.objs.size)).get? hp.objs.size = some emptyDict := Heap.get?_push_of_some _ (Heap.get?_push_size _ rfl)
  have t1 : Looks (model prog w) ((hp.push emptyDict).push (instObj C hp.objs.size)) (typeOf (.ref (hp.objs.size + 1))) (.ref C) := (Looks.ld hx).andThen .now
  have s1 := self.keeps k
  have i1 := hi'.keeps k
  have b1 := bind_fn (M := model prog w) (X.keeps k) (.ref (hp.objs.size + 1)) hf
  have ti : Looks (model prog w) ((hp.push emptyDict).push (instObj C hp.objs.size)) (isInstance (.ref (hp.objs.size + 1)) (.ref C)) true := by unfold isInstance; exact t1.andThen s1
  have tj : Looks (model prog w) ((hp.push emptyDict).push (instObj C hp.objs.size)) (specialOf (.ref (hp.objs.size + 1)) "__init__") (some (.ref fI)) := by unfold specialOf; exact t1.andThen i1
  refine c_bindAny (ti.here ?_)
  refine c_if_false rfl ?_
  refine c_bind (c_holding (c_callSpecial (f := .ref fI) (g := .ref fI) (fun Q hQ => tj.here hQ) (fun Q hQ => b1.here hQ) ?_))
  refine c_call (codeC_mono (h (hp.objs.size + 1) hp.objs.size _ hx hdx k (fun b o e => Heap.lt_size e) (Nat.lt_succ_self _)) fun r s' hr => ?_)
  obtain ⟨rfl, hq⟩ := hr
  refine ⟨.none, rfl, ?_⟩
  refine c_if_false rfl ?_
  exact c_pure ⟨_, rfl, hq⟩
end
end Mine
end
section
open PySem PySem.W PyProof.Rows PySem.Calls
set_option Elab.async false
namespace Mine
set_option maxRecDepth 100000



/-- where a call of the text's own stands: the caller's frame is `env` at `L` over the base `h₀` -/
structure Cx (w : World) (A A₀ : Around) (L : Addr) (h₀ base : Heap) (env : Env) (outer : List Env) (mean : ExcName → Option Value) (mg mb : Str → Option Value) (loose : List Str) (k u : Nat) : Prop where
  B : Below A₀ base outer h₀
  X : (hd.heap_1 w.params).In h₀
  T : Top q0 loose mean mg mb h₀
  hA : A.frames = some (env :: outer)
  hf : env.frame = some L
  hke : env.scope.kind = .function
  hh : A.handled = none
  hd : A.depth + k < recursionLimit
  hu : A.units + u < cLine

/-- what stands in the heap still stands, but for the named ones -/
def Kept (h h' : Heap) (mods : List Addr) : Prop := ∀ b o, b ∉ mods → h.get? b = some o → h'.get? b = some o
theorem Kept.refl (h : Heap) : Kept h h [] := fun _ _ _ e => e
theorem Kept.trans {h h' h'' : Heap} {m : List Addr} (a : Kept h h' m) (b : Kept h' h'' m) : Kept h h'' m := fun c o hc e => b c o hc (a c o hc e)

def Tups (tl : List (Addr × Obj)) : Prop := ∀ p ∈ tl, p.2.cls = .type "tuple"
theorem Tups.nil : Tups [] := fun _ h => nomatch h
theorem Tups.cons {a : Addr} {o : Obj} {tl : List (Addr × Obj)} (e : o.cls = .type "tuple") (h : Tups tl) : Tups ((a, o) :: tl) := fun p hp => by
  rcases List.mem_cons.mp hp with rfl | hp
  · exact e
  · exact h p hp
theorem Tups.off {tl news : List (Addr × Obj)} {h h₀ : Heap} {L a : Addr} {o : Obj} (T : Tups tl) (N : News h₀ L h news) (hs : ∀ p ∈ tl, p ∈ news) (ha : (a, o) ∈ news) (hc : o.cls ≠ .type "tuple") : ∀ p ∈ tl, p.1 ≠ a := fun p hp e => by
  have h1 := (N _ (hs p hp)).1
  have h2 := (N _ ha).1
  rw [e] at h1
  rw [h1] at h2
  exact hc ((congrArg Obj.cls (Option.some.inj h2)).symm.trans (T p hp))
theorem ne_of_objs {news : List (Addr × Obj)} {h h₀ : Heap} {L a b : Addr} {o o' : Obj} (N : News h₀ L h news) (ha : (a, o) ∈ news) (hb : (b, o') ∈ news) (hc : o.cls ≠ o'.cls) : a ≠ b := fun e => by
  have h1 := (N _ ha).1
  have h2 := (N _ hb).1
  subst e
  rw [h1] at h2
  exact hc (congrArg Obj.cls (Option.some.inj h2))
section
variable {prog : Program} {w : World} {A A₀ : Around} {s : Shared} {K : Frag} {L : Addr} {h₀ base : Heap} {m mg mb : Str → Option Value} {news : List (Addr × Obj)} {p : Program} {loose : List Str} {mean : ExcName → Option Value}
abbrev okR (R : Flow → Shared → Prop) : Result → Shared → Prop := fun r s' => match r with | .ok f => R f s' | .error _ => False
theorem code_defC {env : Env} {outer : List Env} {R : Flow → Shared → Prop} {name qual : Str} {params : Arguments} {body : List Stmt} {scope : Scope} {dV kV doc pm cdv ct oc : Value} {an od : Option Addr} {osl : Array (Option Value)} {f : Addr} {args : Args} {binds : List (Str × Value)}
    (B : Below A₀ base outer h₀) (F : Fr h₀ L s.heap m) (X₀ : K.In h₀) (N : News h₀ L s.heap news) (T : Top p loose mean mg mb h₀) (hA : A.frames = some (env :: outer)) (hf : env.frame = some L) (hke : env.scope.kind = .function)
    (ho : K.lookup f = some ⟨oc, od, .func (fnOf name qual params body scope dV kV doc pm an cdv ct), osl⟩) (hcd : codeIn K cdv qual = true) (hroom : A.depth < recursionLimit)
    (hbind : BindsTo s (fnOf name qual params body scope dV kV doc pm an cdv ct) args binds) (hloc : ∀ y ∈ binds, scope.names.lookup y.1 = some .local)
    (h : ∀ g L' h₁, Fr g L' h₁ (fun y => binds.reverse.lookup y) → News g L' h₁ news → Below A base (env :: outer) g → K.In g → Top p loose mean mg mb g → (∀ b o, s.heap.get? b = some o → b ∉ news.map (·.1) → g.get? b = some o) →
      wpC (model prog w) (A.deeper (envOf qual scope L' f cdv)) (execs body (envOf qual scope L' f cdv))
        (fun fl s' => BackW h₀ L m g (okR R) (match fl with | .ret v => v | _ => .none) s')
        { s with heap := h₁, toks := s.toks + binds.length })
    (hco : scope.isCoroutine = false) (hgen : scope.isGenerator = false) (hk : scope.kind = .function)
    (hcell : ∀ x ∈ scope.names, x.2 ≠ .cell) : codeC (model prog w) A (.call (.ref f) args) R s := by
  have ho' : s.heap.get? f = _ := (X₀.keeps F.keep) _ _ ho
  have hcd' : s.heap.CodeRec cdv qual := codeRec_of (X₀.keeps F.keep) hcd
  obtain ⟨FG, BG, st, lv⟩ := groundX (R := okR R) B F N hA hf hke
  refine codeC_call_function (fd := fnX name qual params body scope [] dV kV doc pm an cdv ct) (body := body) (binds := binds) hroom ho' rfl (T.nolimit.keeps F.keep) hcd' rfl hbind hcell hloc (fun h₁ hns hk₁ => ?_) hco hgen hk
  refine c_mono (h _ s.heap.objs.size h₁ ⟨hns, fun b o e => hk₁ b o (of_hideAll _ e), Nat.le_of_eq (hideAll_size _ _)⟩
    (fun p hp => ⟨hk₁ _ _ (N p hp).1, Nat.ne_of_lt (Heap.lt_size (N p hp).1), hideAll_none _ (List.mem_map_of_mem hp)⟩) BG (X₀.keeps st) (T.keeps st) (fun b o e hn => hideAll_get _ e hn)) (fun fl s' hl => ?_)
  obtain ⟨L₂, m₂, F₂, k⟩ := hl
  exact lv _ _ ⟨L₂, m₂, [], F₂, News.nil, fun F₁ _ => k F₁ F₂.keep⟩
end
theorem deeper_frames {A : Around} {e : Env} {l : List Env} (h : A.frames = some l) : (A.deeper e).frames = some (e :: l) := by
  unfold Around.deeper; simp [h]
theorem Cx.in1 {w : World} {A A₀ : Around} {L : Addr} {h₀ base : Heap} {env : Env} {outer : List Env} {mean : ExcName → Option Value} {mg mb : Str → Option Value} {loose : List Str} {k u u' : Nat}
    (C : Cx w A A₀ L h₀ base env outer mean mg mb loose k u) (hu : u' + 1 ≤ u) : Cx w A.in1 A₀ L h₀ base env outer mean mg mb loose k u' :=
  ⟨C.B, C.X, C.T, C.hA, C.hf, C.hke, C.hh, C.hd, by have := C.hu; show A.units + 1 + u' < cLine; omega⟩
theorem Cx.deep {w : World} {A : Around} {L' : Addr} {g base : Heap} {env env' : Env} {outer : List Env} {mean : ExcName → Option Value} {mg mb : Str → Option Value} {loose : List Str} {k u : Nat}
    (B : Below A base (env :: outer) g) (X : (hd.heap_1 w.params).In g) (T : Top q0 loose mean mg mb g) (hA : A.frames = some (env :: outer)) (hh : A.handled = none) (hd : A.depth + (k + 1) < recursionLimit) (hu : A.units + (u + 3) < cLine)
    (hf : env'.frame = some L') (hk : env'.scope.kind = .function) : Cx w (A.deeper env') A L' g base env' (env :: outer) mean mg mb loose k u :=
  ⟨B, X, T, deeper_frames hA, hf, hk, hh, by show A.depth + 1 + k < _; omega, by show A.units + 3 + u < _; omega⟩
theorem Cx.use {w : World} {A : Around} {L' : Addr} {g base : Heap} {env env' : Env} {outer : List Env} {mean : ExcName → Option Value} {mg mb : Str → Option Value} {loose : List Str} {k u : Nat} {α : Type} {M : Model} {t : Sem α} {Q : α → Shared → Prop} {E : Value → Shared → Prop} {s : Shared}
    (B : Below A base (env :: outer) g) (X : (hd.heap_1 w.params).In g) (T : Top q0 loose mean mg mb g) (hA : A.frames = some (env :: outer)) (hh : A.handled = none) (hd : A.depth + (k + 1) < recursionLimit) (hu : A.units + (u + 3) < cLine)
    (hf : env'.frame = some L') (hk : env'.scope.kind = .function) (h : Cx w (A.deeper env') A L' g base env' (env :: outer) mean mg mb loose k u → wpAny M (A.deeper env') t Q E s) : wpAny M (A.deeper env') t Q E s := h (Cx.deep B X T hA hh hd hu hf hk)
theorem Cx.useC {w : World} {A : Around} {L' : Addr} {g base : Heap} {env env' : Env} {outer : List Env} {mean : ExcName → Option Value} {mg mb : Str → Option Value} {loose : List Str} {k u : Nat} {α : Type} {M : Model} {t : Sem α} {Q : α → Shared → Prop} {s : Shared}
    (B : Below A base (env :: outer) g) (X : (hd.heap_1 w.params).In g) (T : Top q0 loose mean mg mb g) (hA : A.frames = some (env :: outer)) (hh : A.handled = none) (hd : A.depth + (k + 1) < recursionLimit) (hu : A.units + (u + 3) < cLine)
    (hf : env'.frame = some L') (hk : env'.scope.kind = .function) (h : Cx w (A.deeper env') A L' g base env' (env :: outer) mean mg mb loose k u → wpC M (A.deeper env') t Q s) : wpC M (A.deeper env') t Q s := h (Cx.deep B X T hA hh hd hu hf hk)
/-- the same, the environment and what stands around under names -/
theorem Cx.useL {w : World} {A : Around} {L' : Addr} {g base : Heap} {env env' : Env} {outer : List Env} {mean : ExcName → Option Value} {mg mb : Str → Option Value} {loose : List Str} {k u : Nat} {M : Model} {body : List Stmt} {Q : Flow → Shared → Prop} {E : Value → Shared → Prop} {s : Shared}
    (B : Below A base (env :: outer) g) (X : (hd.heap_1 w.params).In g) (T : Top q0 loose mean mg mb g) (hA : A.frames = some (env :: outer)) (hh : A.handled = none) (hd : A.depth + (k + 1) < recursionLimit) (hu : A.units + (u + 3) < cLine)
    (hf : env'.frame = some L') (hk : env'.scope.kind = .function) (h : let e9 := env'; let A9 := A.deeper e9; Cx w A9 A L' g base e9 (env :: outer) mean mg mb loose k u → wpAny M A9 (execs body e9) Q E s) : wpAny M (A.deeper env') (execs body env') Q E s := h (Cx.deep B X T hA hh hd hu hf hk)
theorem Cx.useCL {w : World} {A : Around} {L' : Addr} {g base : Heap} {env env' : Env} {outer : List Env} {mean : ExcName → Option Value} {mg mb : Str → Option Value} {loose : List Str} {k u : Nat} {M : Model} {body : List Stmt} {Q : Flow → Shared → Prop} {s : Shared}
    (B : Below A base (env :: outer) g) (X : (hd.heap_1 w.params).In g) (T : Top q0 loose mean mg mb g) (hA : A.frames = some (env :: outer)) (hh : A.handled = none) (hd : A.depth + (k + 1) < recursionLimit) (hu : A.units + (u + 3) < cLine)
    (hf : env'.frame = some L') (hk : env'.scope.kind = .function) (h : let e9 := env'; let A9 := A.deeper e9; Cx w A9 A L' g base e9 (env :: outer) mean mg mb loose k u → wpC M A9 (execs body e9) Q s) : wpC M (A.deeper env') (execs body env') Q s := h (Cx.deep B X T hA hh hd hu hf hk)
theorem Cx.mono {w : World} {A A₀ : Around} {L : Addr} {h₀ base : Heap} {env : Env} {outer : List Env} {mean : ExcName → Option Value} {mg mb : Str → Option Value} {loose : List Str} {k u k' u' : Nat}
    (C : Cx w A A₀ L h₀ base env outer mean mg mb loose k u) (hk : k' ≤ k) (hu : u' ≤ u) : Cx w A A₀ L h₀ base env outer mean mg mb loose k' u' :=
  ⟨C.B, C.X, C.T, C.hA, C.hf, C.hke, C.hh, by have := C.hd; omega, by have := C.hu; omega⟩

theorem BackW.fin {s s' : Shared} {L L' : Addr} {h₀ g : Heap} {m m' : Str → Option Value} {news news' : List (Addr × Obj)} {mods : List Addr} {R : Result → Shared → Prop} {v : Value}
    (F' : Fr g L' s'.heap m') (N : News h₀ L s.heap news) (N' : News g L' s'.heap news') (hg : ∀ b o, s.heap.get? b = some o → b ∉ news.map (·.1) → g.get? b = some o)
    (hsub : ∀ p ∈ news, p.1 ∈ mods ∨ p ∈ news') (h : Fr h₀ L s'.heap m → Kept s.heap s'.heap mods → R (.ok (.ret v)) s') : BackW h₀ L m g R v s' := by
  refine backW_ F' fun F K => h F fun b o hb e => ?_
  by_cases hm : b ∈ news.map (·.1)
  · obtain ⟨p, hp, rfl⟩ := List.mem_map.mp hm
    have e2 := (N p hp).1
    rw [e] at e2
    rcases hsub p hp with h1 | h1
    · exact absurd h1 hb
    · rw [Option.some.inj e2]; exact (N' p h1).1
  · exact K b o (hg b o e hm)
theorem News.three {h h₀ : Heap} {L : Addr} {news : List (Addr × Obj)} {a b c : Addr × Obj} (N : News h₀ L h news) (ha : a ∈ news) (hb : b ∈ news) (hc : c ∈ news) : News h₀ L h [a, b, c] := fun p hp => by
  rcases List.mem_cons.mp hp with rfl | hp
  · exact N _ ha
  rcases List.mem_cons.mp hp with rfl | hp
  · exact N _ hb
  rcases List.mem_cons.mp hp with rfl | hp
  · exact N _ hc
  · cases hp
/-- a ledger after a call, entry by entry -/
theorem News.entry {s : Shared} {h' h₀ : Heap} {L a : Addr} {m : Str → Option Value} {news rest : List (Addr × Obj)} {o o' : Obj} (N : News h₀ L s.heap news) (hm : (a, o) ∈ news) (e : h'.get? a = some o') (hr : News h₀ L h' rest) : News h₀ L h' ((a, o') :: rest) := fun p hp => by
  rcases List.mem_cons.mp hp with rfl | hp
  · exact ⟨e, (N _ hm).2⟩
  · exact hr p hp
theorem News.fresh1 {h h' h₀ : Heap} {L a : Addr} {m : Str → Option Value} {rest : List (Addr × Obj)} {o : Obj} (F : Fr h₀ L h m) (hn : h.get? a = none) (e : h'.get? a = some o) (hr : News h₀ L h' rest) : News h₀ L h' ((a, o) :: rest) := fun p hp => by
  rcases List.mem_cons.mp hp with rfl | hp
  · refine ⟨e, fun x => ?_, ?_⟩
    · obtain ⟨oL, _, _, hL, _⟩ := F.ns
      dsimp only at x
      rw [x, hL] at hn; cases hn
    · cases hx : h₀.get? a with
      | none => rfl
      | some o => rw [F.keep _ _ hx] at hn; cases hn
  · exact hr p hp
theorem Kept.news {h h' h₀ : Heap} {L : Addr} {news rest : List (Addr × Obj)} {mods : List Addr} (K : Kept h h' mods) (N : News h₀ L h news) (hs : ∀ p ∈ rest, p ∈ news) (hn : ∀ p ∈ rest, p.1 ∉ mods) : News h₀ L h' rest := fun p hp =>
  ⟨K _ _ (hn p hp) (N p (hs p hp)).1, (N p (hs p hp)).2⟩
theorem News.back {h h' h₀ g : Heap} {L L' : Addr} {news news' : List (Addr × Obj)} (N : News h₀ L h news) (N' : News g L' h' news') (hs : ∀ p ∈ news', ∃ o, (p.1, o) ∈ news) : News h₀ L h' news' := fun p hp =>
  ⟨(N' p hp).1, let ⟨_, ho⟩ := hs p hp; (N _ ho).2⟩
theorem UpdF.mem_of {a : Addr} {o o' : Obj} {news : List (Addr × Obj)} {u : Obj → List (Addr × Obj)} (U : UpdF a o news u) : ∀ p ∈ u o', p = (a, o') ∨ (p ∈ news ∧ p.1 ≠ a) := fun p hp => by
  obtain ⟨pre, post, e, e2, h1, h2⟩ := U.split
  rw [e2] at hp
  rcases List.mem_append.mp hp with hp | hp
  · exact .inr ⟨by rw [e]; exact List.mem_append.mpr (.inl hp), h1 p hp⟩
  · rcases List.mem_cons.mp hp with rfl | hp
    · exact .inl rfl
    · exact .inr ⟨by rw [e]; exact List.mem_append.mpr (.inr (.tail _ hp)), h2 p hp⟩
theorem UpdF.here {a : Addr} {o : Obj} {news : List (Addr × Obj)} {u : Obj → List (Addr × Obj)} (U : UpdF a o news u) : (a, o) ∈ news := by
  obtain ⟨pre, post, e, _⟩ := U.split
  rw [e]; exact List.mem_append.mpr (.inr (.head _))
theorem News.put1 {h h' g : Heap} {L a : Addr} {news : List (Addr × Obj)} {u : Obj → List (Addr × Obj)} {o o' : Obj} (N : News g L h news) (K : Kept h h' [a]) (U : UpdF a o news u) (e : h'.get? a = some o') : News g L h' (u o') := fun p hp => by
  rcases UpdF.mem_of U p hp with rfl | ⟨hm, hn⟩
  · exact ⟨e, (N _ (UpdF.here U)).2⟩
  · exact ⟨K _ _ (by simpa using hn) (N p hm).1, (N p hm).2⟩
theorem News.put2 {h h' g : Heap} {L a b : Addr} {news : List (Addr × Obj)} {u v : Obj → List (Addr × Obj)} {o o' q q' : Obj} (N : News g L h news) (K : Kept h h' [a, b]) (U : UpdF a o news u) (e : h'.get? a = some o') (V : UpdF b q (u o') v) (e2 : h'.get? b = some q') : News g L h' (v q') := fun p hp => by
  rcases UpdF.mem_of V p hp with rfl | ⟨hm, hn⟩
  · rcases UpdF.mem_of U _ (UpdF.here V) with x | ⟨hm, _⟩
    · obtain rfl : b = a := congrArg Prod.fst x
      exact ⟨e2, (N _ (UpdF.here U)).2⟩
    · exact ⟨e2, (N _ hm).2⟩
  · rcases UpdF.mem_of U p hm with rfl | ⟨hm, hn2⟩
    · exact ⟨e, (N _ (UpdF.here U)).2⟩
    · exact ⟨K _ _ (by simp [hn, hn2]) (N p hm).1, (N p hm).2⟩
theorem offL {nx : List (Addr × Obj)} {I a : Addr} {o : Obj} (h : ∀ p ∈ nx, p.1 ≠ I) (hm : (a, o) ∈ nx) : I ≠ a := fun e => h _ hm e.symm
theorem offR {nx : List (Addr × Obj)} {I a : Addr} {o : Obj} (h : ∀ p ∈ nx, p.1 ≠ I) (hm : (a, o) ∈ nx) : a ≠ I := h _ hm
theorem new_ne {h h₀ : Heap} {L a : Addr} {news : List (Addr × Obj)} (N : News h₀ L h news) (hn : h.get? a = none) : ∀ p ∈ news, p.1 ≠ a := fun p hp e => by
  have := (N p hp).1
  rw [e, hn] at this; cases this
end Mine
end
section
open PySem PySem.W PyProof.Rows PySem.Calls
set_option Elab.async false
namespace Mine
set_option maxRecDepth 100000

section
variable {α : Type} {M : Model} {A : Around} {s : Shared}
/-- what is asked of the end, under a name -/
theorem c_fold {t : Sem α} {Q : α → Shared → Prop} (h : ∀ q : α → Shared → Prop, (∀ a s, Q a s → q a s) → wpC M A t q s) : wpC M A t Q s := h Q fun _ _ x => x
theorem c_foldA {β : Type} {a : Sem β} {t : Sem α} {Q : α → Shared → Prop} (h : ∀ q : α → Shared → Prop, (∀ a s, Q a s → q a s) → wpAny M A a (fun _ s₂ => wpC M A t q s₂) nE s) :
    wpAny M A a (fun _ s₂ => wpC M A t Q s₂) nE s := h Q fun _ _ x => x
end
/-- the state under a name -/
theorem letC {α : Type} {M : Model} {A : Around} {t : Sem α} {Q : α → Shared → Prop} {s : Shared} (H : let s9 := s; wpC M A t Q s9) : wpC M A t Q s := H
theorem letA {α : Type} {M : Model} {A : Around} {t : Sem α} {Q : α → Shared → Prop} {E : Value → Shared → Prop} {s : Shared} (H : let s9 := s; wpAny M A t Q E s9) : wpAny M A t Q E s := H
/-- the frame's words under a name -/
theorem letMap {g h : Heap} {L : Addr} {m : Str → Option Value} {P : Prop} (F : Fr g L h m) (H : let m9 := m; Fr g L h m9 → P) : P := H F
theorem letNews {g h : Heap} {L : Addr} {n : List (Addr × Obj)} {P : Prop} (N : News g L h n) (H : let n9 := n; News g L h n9 → P) : P := H N
/-- a word between the turns of a loop, under a name: made from its parts, taken apart at once -/
theorem exJ {α β γ : Type} (K : α → β → γ → Prop → Prop) : ∃ J : α → β → γ → Prop, (∀ a b c, (∀ G, K a b c G → G) → J a b c) ∧ ∀ a b c G, J a b c → K a b c G → G :=
  ⟨fun a b c => ∀ G, K a b c G → G, fun _ _ _ h => h, fun _ _ _ G h k => h G k⟩
theorem exP {α β : Type} (K : α → β → Prop → Prop) : ∃ J : α → β → Prop, (∀ a b, (∀ G, K a b G → G) → J a b) ∧ ∀ a b G, J a b → K a b G → G :=
  ⟨fun a b => ∀ G, K a b G → G, fun _ _ h => h, fun _ _ G h k => h G k⟩
theorem fmc {α : Type} {p : α → Prop} {x : α} {l : List α} (h : p x) (r : ∀ y ∈ l, p y) : ∀ y ∈ x :: l, p y := List.forall_mem_cons.mpr ⟨h, r⟩
theorem mem1 {α : Type} {a0 a1 : α} {l : List α} : a1 ∈ a0 :: a1 :: l := .tail _ (.head _)
theorem mem2 {α : Type} {a0 a1 a2 : α} {l : List α} : a2 ∈ a0 :: a1 :: a2 :: l := .tail _ (.tail _ (.head _))
theorem mem3 {α : Type} {a0 a1 a2 a3 : α} {l : List α} : a3 ∈ a0 :: a1 :: a2 :: a3 :: l := .tail _ (.tail _ (.tail _ (.head _)))
theorem mem4 {α : Type} {a0 a1 a2 a3 a4 : α} {l : List α} : a4 ∈ a0 :: a1 :: a2 :: a3 :: a4 :: l := .tail _ (.tail _ (.tail _ (.tail _ (.head _))))
theorem mem5 {α : Type} {a0 a1 a2 a3 a4 a5 : α} {l : List α} : a5 ∈ a0 :: a1 :: a2 :: a3 :: a4 :: a5 :: l := .tail _ (.tail _ (.tail _ (.tail _ (.tail _ (.head _)))))
theorem mem6 {α : Type} {a0 a1 a2 a3 a4 a5 a6 : α} {l : List α} : a6 ∈ a0 :: a1 :: a2 :: a3 :: a4 :: a5 :: a6 :: l := .tail _ (.tail _ (.tail _ (.tail _ (.tail _ (.tail _ (.head _))))))
theorem mem7 {α : Type} {a0 a1 a2 a3 a4 a5 a6 a7 : α} {l : List α} : a7 ∈ a0 :: a1 :: a2 :: a3 :: a4 :: a5 :: a6 :: a7 :: l := .tail _ (.tail _ (.tail _ (.tail _ (.tail _ (.tail _ (.tail _ (.head _)))))))
theorem mem8 {α : Type} {a0 a1 a2 a3 a4 a5 a6 a7 a8 : α} {l : List α} : a8 ∈ a0 :: a1 :: a2 :: a3 :: a4 :: a5 :: a6 :: a7 :: a8 :: l := .tail _ (.tail _ (.tail _ (.tail _ (.tail _ (.tail _ (.tail _ (.tail _ (.head _))))))))
theorem mem9 {α : Type} {a0 a1 a2 a3 a4 a5 a6 a7 a8 a9 : α} {l : List α} : a9 ∈ a0 :: a1 :: a2 :: a3 :: a4 :: a5 :: a6 :: a7 :: a8 :: a9 :: l := .tail _ (.tail _ (.tail _ (.tail _ (.tail _ (.tail _ (.tail _ (.tail _ (.tail _ (.head _)))))))))
theorem mem10 {α : Type} {a0 a1 a2 a3 a4 a5 a6 a7 a8 a9 a10 : α} {l : List α} : a10 ∈ a0 :: a1 :: a2 :: a3 :: a4 :: a5 :: a6 :: a7 :: a8 :: a9 :: a10 :: l := .tail _ (.tail _ (.tail _ (.tail _ (.tail _ (.tail _ (.tail _ (.tail _ (.tail _ (.tail _ (.head _))))))))))
theorem mem11 {α : Type} {a0 a1 a2 a3 a4 a5 a6 a7 a8 a9 a10 a11 : α} {l : List α} : a11 ∈ a0 :: a1 :: a2 :: a3 :: a4 :: a5 :: a6 :: a7 :: a8 :: a9 :: a10 :: a11 :: l := .tail _ (.tail _ (.tail _ (.tail _ (.tail _ (.tail _ (.tail _ (.tail _ (.tail _ (.tail _ (.tail _ (.head _)))))))))))
theorem mem12 {α : Type} {a0 a1 a2 a3 a4 a5 a6 a7 a8 a9 a10 a11 a12 : α} {l : List α} : a12 ∈ a0 :: a1 :: a2 :: a3 :: a4 :: a5 :: a6 :: a7 :: a8 :: a9 :: a10 :: a11 :: a12 :: l := .tail _ (.tail _ (.tail _ (.tail _ (.tail _ (.tail _ (.tail _ (.tail _ (.tail _ (.tail _ (.tail _ (.tail _ (.head _))))))))))))
theorem mem13 {α : Type} {a0 a1 a2 a3 a4 a5 a6 a7 a8 a9 a10 a11 a12 a13 : α} {l : List α} : a13 ∈ a0 :: a1 :: a2 :: a3 :: a4 :: a5 :: a6 :: a7 :: a8 :: a9 :: a10 :: a11 :: a12 :: a13 :: l := .tail _ (.tail _ (.tail _ (.tail _ (.tail _ (.tail _ (.tail _ (.tail _ (.tail _ (.tail _ (.tail _ (.tail _ (.tail _ (.head _)))))))))))))
theorem mem14 {α : Type} {a0 a1 a2 a3 a4 a5 a6 a7 a8 a9 a10 a11 a12 a13 a14 : α} {l : List α} : a14 ∈ a0 :: a1 :: a2 :: a3 :: a4 :: a5 :: a6 :: a7 :: a8 :: a9 :: a10 :: a11 :: a12 :: a13 :: a14 :: l := .tail _ (.tail _ (.tail _ (.tail _ (.tail _ (.tail _ (.tail _ (.tail _ (.tail _ (.tail _ (.tail _ (.tail _ (.tail _ (.tail _ (.head _))))))))))))))
theorem mem15 {α : Type} {a0 a1 a2 a3 a4 a5 a6 a7 a8 a9 a10 a11 a12 a13 a14 a15 : α} {l : List α} : a15 ∈ a0 :: a1 :: a2 :: a3 :: a4 :: a5 :: a6 :: a7 :: a8 :: a9 :: a10 :: a11 :: a12 :: a13 :: a14 :: a15 :: l := .tail _ (.tail _ (.tail _ (.tail _ (.tail _ (.tail _ (.tail _ (.tail _ (.tail _ (.tail _ (.tail _ (.tail _ (.tail _ (.tail _ (.tail _ (.head _)))))))))))))))
theorem mem16 {α : Type} {a0 a1 a2 a3 a4 a5 a6 a7 a8 a9 a10 a11 a12 a13 a14 a15 a16 : α} {l : List α} : a16 ∈ a0 :: a1 :: a2 :: a3 :: a4 :: a5 :: a6 :: a7 :: a8 :: a9 :: a10 :: a11 :: a12 :: a13 :: a14 :: a15 :: a16 :: l := .tail _ (.tail _ (.tail _ (.tail _ (.tail _ (.tail _ (.tail _ (.tail _ (.tail _ (.tail _ (.tail _ (.tail _ (.tail _ (.tail _ (.tail _ (.tail _ (.head _))))))))))))))))
/-! two frames' maps that agree on all the names that they were given -/
inductive Upd (m0 : Str → Option Value) : List Str → (Str → Option Value) → Prop
  | nil : Upd m0 [] m0
  | cons {n : Str} {v : Option Value} {l : List Str} {m : Str → Option Value} (h : Upd m0 l m) : Upd m0 (n :: l) (fun y => if y = n then v else m y)
theorem Upd.off {m0 : Str → Option Value} {l : List Str} {m : Str → Option Value} (U : Upd m0 l m) {y : Str} (h : y ∉ l) : m y = m0 y := by
  induction U with
  | nil => rfl
  | cons _ ih =>
    rw [List.mem_cons, not_or] at h
    show (if _ then _ else _) = _
    rw [if_neg h.1]
    exact ih h.2
inductive AllEq (m1 m2 : Str → Option Value) : List Str → Prop
  | nil : AllEq m1 m2 []
  | cons {n : Str} {l : List Str} (h : m1 n = m2 n) (r : AllEq m1 m2 l) : AllEq m1 m2 (n :: l)
theorem AllEq.mem {m1 m2 : Str → Option Value} {l : List Str} (h : AllEq m1 m2 l) {y : Str} (hy : y ∈ l) : m1 y = m2 y := by
  induction h with
  | nil => cases hy
  | cons h _ ih => rcases List.mem_cons.mp hy with rfl | hy; exact h; exact ih hy
theorem mapEq {m0 m1 m2 : Str → Option Value} {l1 l2 : List Str} (U1 : Upd m0 l1 m1) (U2 : Upd m0 l2 m2) (e1 : AllEq m1 m2 l1) (e2 : AllEq m1 m2 l2) : m1 = m2 := by
  funext y
  by_cases h1 : y ∈ l1
  · exact e1.mem h1
  by_cases h2 : y ∈ l2
  · exact e2.mem h2
  rw [U1.off h1, U2.off h2]
end Mine
end
section
open PySem PySem.W PyProof.Rows PySem.Calls Builtin
set_option Elab.async false
namespace Mine
set_option maxRecDepth 100000
abbrev winEs (P : Params) (k1 k2 k3 k4 : Tok) (sz tot sp : Int) (t1 t2 t4 : Tok) (rg : Addr) : List DictEntry :=
  [⟨PyData.keyHash P (Str.ofString "size"), .str (Str.ofString "size") k1, .int sz t1⟩, ⟨PyData.keyHash P (Str.ofString "total"), .str (Str.ofString "total") k2, .int tot t2⟩,
   ⟨PyData.keyHash P (Str.ofString "ring"), .str (Str.ofString "ring") k3, .ref rg⟩, ⟨PyData.keyHash P (Str.ofString "spot"), .str (Str.ofString "spot") k4, .int sp t4⟩]
section
variable {prog : Program} {w : World} {A : Around} {E : Value → Shared → Prop} {s : Shared} {value slice : PySem.Expr} {t : Tok} {h₀ : Heap} {L a : Addr} {m : PySem.Str → Option Value} {news : List (Addr × Obj)} {l : List UInt8} {g : Obj → List (Addr × Obj)}
abbrev sliceO (l u : Value) : Obj := { cls := .type "slice", data := .fields #[l, u, .none] }

/-! bytearray -/
theorem len_baN {Q : Value → Shared → Prop} (N : News h₀ L s.heap news) (hm : (a, baO l) ∈ news) (hz : l.length ≤ 16777216) (q : ∀ t k, Q (.int l.length t) { s with toks := k }) :
    wpAny (model prog w) A (call (.builtin "len") [.ref a]) Q E s := len_ba (N.get hm) hz (q _ _)
theorem item_baN {i : Int} {ui : Tok} {Q : Value → Shared → Prop} (N : News h₀ L s.heap news) (hm : (a, baO l) ∈ news) (hz : l.length ≤ 16777216) (h0 : 0 ≤ i) (h1 : i < l.length)
    (q : ∀ t k, Q (.int (l.getD i.toNat 0).toNat t) { s with toks := k })
    (hs : subscripted slice false (.ref a) (.int i ui) = operate [.ref a, .int i ui] (getItem (.ref a) (.int i ui)) := by with_unfolding_all rfl)
    (ht : ∀ r, letTemporaryGo value (.ref a) r = pure () := by intro _; with_unfolding_all rfl) :
    wpAny (model prog w) A (subscriptTail value slice (.ref a) (.int i ui)) Q E s :=
  tail_of_ItemOn ⟨"bytearray", _, BF.slot_bytearray_getitem.lookup, typeIs_ba (N.get hm), getItem_ba (N.get hm) hz h0 h1 (q _ _)⟩ hs ht
theorem slice_baN {lv uv : Value} {lo hi : Option Int} {Q : Value → Shared → Prop} (F : Fr h₀ L s.heap m) (N : News h₀ L s.heap news) (hm : (a, baO l) ∈ news) (hz : l.length ≤ 16777216) (hl : IsPart lv lo) (hu : IsPart uv hi)
    (q : ∀ D h', Fr h₀ L h' m → News h₀ L h' ((D, baO (cutB l lo hi)) :: news) → (∀ q ∈ news, q.1 < D) → Q (.ref D) { s with heap := h' })
    (hs : subscripted slice false (.ref a) (.ref s.heap.objs.size) = operate [.ref s.heap.objs.size, .ref a] (getItem (.ref a) (.ref s.heap.objs.size)) := by with_unfolding_all rfl)
    (ht : ∀ r, letTemporaryGo value (.ref a) r = pure () := by intro _; with_unfolding_all rfl) :
    wpAny (model prog w) A (subscriptTail value slice (.ref a) (.ref s.heap.objs.size)) Q E { s with heap := s.heap.push (sliceO lv uv) } := by
  have F' : Fr h₀ L (s.heap.push (sliceO lv uv)) m := F.push _
  have N' : News h₀ L (s.heap.push (sliceO lv uv)) news := N.pushKeep _
  refine tail_of_ItemOn ⟨"bytearray", _, BF.slot_bytearray_getitem.lookup, typeIs_ba (N'.get hm), getSlice_ba (N'.get hm) hz hl hu (Heap.IsSliceOf.new _ _ _ _) ?_⟩ hs ht
  refine q _ _ (F'.push _) (news_pushed (s := ⟨_, s.gens, s.drawn, s.toks, s.os⟩) F' N' (fun b o e => Heap.get?_push_of_some _ e) (Heap.get?_push_size _ rfl) rfl) fun p hp => ?_
  exact Heap.lt_size (N' p hp).1
theorem add_baN {b : Addr} {r : List UInt8} {Q : Value → Shared → Prop} (F : Fr h₀ L s.heap m) (N : News h₀ L s.heap news) (hm : (a, baO l) ∈ news) (hm2 : (b, baO r) ∈ news) (hz : l.length + r.length ≤ 16777216)
    (q : ∀ D h', Fr h₀ L h' m → News h₀ L h' ((D, baO (l ++ r)) :: news) → (∀ q ∈ news, q.1 < D) → Q (.ref D) { s with heap := h' }) :
    wpAny (model prog w) A (binaryOp .Add (.ref a) (.ref b)) Q E s :=
  add_ba (N.get hm) (N.get hm2) hz (q _ _ (F.push _) (news_pushed F N (fun b o e => Heap.get?_push_of_some _ e) (Heap.get?_push_size _ rfl) rfl) fun p hp => Heap.lt_size (N p hp).1)
theorem bytes_baN {Q : Value → Shared → Prop} (N : News h₀ L s.heap news) (hm : (a, baO l) ∈ news) (hz : l.length ≤ 16777216) (q : ∀ t k, Q (.bytes l.toArray t) { s with toks := k }) :
    wpAny (model prog w) A (call (.type "bytes") [.ref a]) Q E s := call_bytes_ba (N.get hm) hz (q _ _)
theorem upd_keep {o o' : Obj} {h' : Heap} (F : Fr h₀ L s.heap m) (N : News h₀ L s.heap news) (U : UpdF a o news g) (hn : h'.get? a = some o') (hk : ∀ b o, b ≠ a → s.heap.get? b = some o → h'.get? b = some o) : Fr h₀ L h' m ∧ News h₀ L h' (g o') := by
  obtain ⟨pre, post, e, e2, h1, h2⟩ := U.split
  have hm : (a, o) ∈ news := by rw [e]; exact List.mem_append.mpr (.inr (.head _))
  obtain ⟨_, hL, hb⟩ := N _ hm
  refine ⟨⟨F.ns.at fun o e => hk _ _ hL.symm e, fun b o e => hk b o (fun x => ?_) (F.keep b o e), F.above⟩, fun p hp => ?_⟩
  · rw [x, hb] at e; cases e
  · rw [e2] at hp
    rcases List.mem_append.mp hp with hp | hp
    · have := N p (by rw [e]; exact List.mem_append.mpr (.inl hp))
      exact ⟨hk _ _ (h1 p hp) this.1, this.2⟩
    · rcases List.mem_cons.mp hp with rfl | hp
      · exact ⟨hn, hL, hb⟩
      · have := N p (by rw [e]; exact List.mem_append.mpr (.inr (.tail _ hp)))
        exact ⟨hk _ _ (h2 p hp) this.1, this.2⟩
theorem set_baN {i x : Int} {ti tx : Tok} {Q : Unit → Shared → Prop} (F : Fr h₀ L s.heap m) (N : News h₀ L s.heap news) (U : UpdF a (baO l) news g) (hz : l.length ≤ 16777216) (h0 : 0 ≤ i) (h1 : i < l.length) (hx : 0 ≤ x ∧ x < 256)
    (q : ∀ h', Fr h₀ L h' m → News h₀ L h' (g (baO (l.set i.toNat x.toNat.toUInt8))) → Q () { s with heap := h' }) : wpAny (model prog w) A (setItem (.ref a) (.int i ti) (.int x tx)) Q E s := by
  obtain ⟨pre, post, e, _⟩ := U.split
  have hm : (a, baO l) ∈ news := by rw [e]; exact List.mem_append.mpr (.inr (.head _))
  exact setItem_ba (N.get hm) hz h0 h1 hx fun h' e k => q h' (upd_keep F N U e k).1 (upd_keep F N U e k).2
theorem append_baN {x : Int} {tx : Tok} {Q : Value → Shared → Prop} (F : Fr h₀ L s.heap m) (N : News h₀ L s.heap news) (U : UpdF a (baO l) news g) (hz : l.length < 16777216) (hx : 0 ≤ x ∧ x < 256)
    (q : ∀ h', Fr h₀ L h' m → News h₀ L h' (g (baO (l ++ [x.toNat.toUInt8]))) → Q .none { s with heap := h' }) : wpC (model prog w) A (call (.builtin "bytearray.append") [.ref a, .int x tx]) Q s := by
  obtain ⟨pre, post, e, _⟩ := U.split
  have hm : (a, baO l) ∈ news := by rw [e]; exact List.mem_append.mpr (.inr (.head _))
  exact c_append (N.get hm) hz hx fun h' e k => q h' (upd_keep F N U e k).1 (upd_keep F N U e k).2
theorem new_baN {v : Option (Array UInt8 × Tok)} {Q : Value → Shared → Prop} (F : Fr h₀ L s.heap m) (N : News h₀ L s.heap news) (hz : ∀ p, v = some p → p.1.size ≤ sizeLine)
    (q : ∀ D h', Fr h₀ L h' m → News h₀ L h' ((D, baO (baL v)) :: news) → (∀ q ∈ news, q.1 < D) → Q (.ref D) { s with heap := h' }) : wpC (model prog w) A (call (.type "bytearray") (baArgs v)) Q s :=
  c_newba hz fun h' e k => q _ _ (F.keeps k) (news_pushed F N k e rfl) fun p hp => Heap.lt_size (N p hp).1

/-! bytes -/
theorem lenB {Q : Value → Shared → Prop} (hz : l.length ≤ 16777216) (q : ∀ t k, Q (.int l.length t) { s with toks := k }) : wpAny (model prog w) A (call (.builtin "len") [.bytes l.toArray t]) Q E s :=
  len_bytes (by rw [List.size_toArray]; omega) (by rw [List.size_toArray]; exact q _ _)
theorem itemB {i : Int} {ui : Tok} {Q : Value → Shared → Prop} (hz : l.length ≤ 16777216) (h0 : 0 ≤ i) (h1 : i < l.length) (q : ∀ t k, Q (.int (l.getD i.toNat 0).toNat t) { s with toks := k })
    (hs : subscripted slice false (.bytes l.toArray t) (.int i ui) = operate [.bytes l.toArray t, .int i ui] (getItem (.bytes l.toArray t) (.int i ui)) := by with_unfolding_all rfl)
    (ht : ∀ r, letTemporaryGo value (.bytes l.toArray t) r = pure () := by intro _; with_unfolding_all rfl) :
    wpAny (model prog w) A (subscriptTail value slice (.bytes l.toArray t) (.int i ui)) Q E s :=
  KBy.item_N (by omega) h0 h1 (q _ _) hs ht
theorem itemBneg {i : Int} {ui : Tok} {Q : Value → Shared → Prop} (hz : l.length ≤ 16777216) (h0 : -(l.length : Int) ≤ i) (h1 : i < 0) (q : ∀ t k, Q (.int (l.getD (i + l.length).toNat 0).toNat t) { s with toks := k })
    (hs : subscripted slice false (.bytes l.toArray t) (.int i ui) = operate [.bytes l.toArray t, .int i ui] (getItem (.bytes l.toArray t) (.int i ui)) := by with_unfolding_all rfl)
    (ht : ∀ r, letTemporaryGo value (.bytes l.toArray t) r = pure () := by intro _; with_unfolding_all rfl) :
    wpAny (model prog w) A (subscriptTail value slice (.bytes l.toArray t) (.int i ui)) Q E s := by
  have e1 : (KBw.bInts l.toArray).length = l.length := by rw [KBw.ints_length, List.size_toArray]
  have e2 : (KBw.bInts l.toArray).getD (i + l.length).toNat 0 = (l.getD (i + l.length).toNat 0).toNat := by rw [KBw.getD_ints]; rfl
  refine KBc.itemR_K (i := i) rfl (by rw [e1]; omega) (by rw [e1]; exact h0) h1 (fun t' k _ _ => ?_) hs ht
  rw [e1, e2]; exact q _ _
theorem sliceB {lv uv : Value} {lo hi : Option Int} {Q : Value → Shared → Prop} (F : Fr h₀ L s.heap m) (N : News h₀ L s.heap news) (hz : l.length ≤ 16777216) (hl : IsPart lv lo) (hu : IsPart uv hi)
    (q : ∀ h' t k, Fr h₀ L h' m → News h₀ L h' news → Q (.bytes (cutB l lo hi).toArray t) { s with heap := h', toks := k })
    (hs : subscripted slice false (.bytes l.toArray t) (.ref s.heap.objs.size) = operate [.ref s.heap.objs.size, .bytes l.toArray t] (getItem (.bytes l.toArray t) (.ref s.heap.objs.size)) := by with_unfolding_all rfl)
    (ht : ∀ r, letTemporaryGo value (.bytes l.toArray t) r = pure () := by intro _; with_unfolding_all rfl) :
    wpAny (model prog w) A (subscriptTail value slice (.bytes l.toArray t) (.ref s.heap.objs.size)) Q E { s with heap := s.heap.push (sliceO lv uv) } := by
  refine KBc.slice_K F N rfl hl hu (by rw [KBw.ints_length, List.size_toArray]; exact hz) (fun h' t' k F' N' _ => ?_) hs ht
  rw [KBc.picked_eq, show ((l.toArray.toList.drop _).take _) = cutB l lo hi from by simp [cutB]]
  exact q _ _ _ F' N'
theorem addB {r : List UInt8} {u : Tok} {Q : Value → Shared → Prop} (hz : l.length + r.length ≤ 16777216) (q : ∀ t k, Q (.bytes (l ++ r).toArray t) { s with toks := k }) :
    wpAny (model prog w) A (binaryOp .Add (.bytes l.toArray t) (.bytes r.toArray u)) Q E s :=
  KBy.add_bytes (by rw [List.size_toArray, List.size_toArray]; exact hz) fun t' k => by rw [List.append_toArray]; exact q _ _
theorem eqB {r : List UInt8} {u : Tok} {Q : Value → Shared → Prop} (q : Q (.bool (l == r)) s) : wpAny (model prog w) A (compareOp .Eq (.bytes l.toArray t) (.bytes r.toArray u)) Q E s := eq_bytes (by simpa using q)
theorem neB {r : List UInt8} {u : Tok} {Q : Value → Shared → Prop} (q : Q (.bool (l != r)) s) : wpAny (model prog w) A (compareOp .NotEq (.bytes l.toArray t) (.bytes r.toArray u)) Q E s := ne_bytes (by simpa using q)
theorem method_baN {name : Str} {id : String} {pl : Sem Bool} {Q : Value × List Value → Shared → Prop} (slot : Slot "bytearray" name id) (hty : typeOf (.builtin id) = pure (.type "method_descriptor")) (N : News h₀ L s.heap news) (hm : (a, baO l) ∈ news)
    (h : Q (.builtin id, [.ref a]) s) : wpAny (model prog w) A (getMethod (.ref a) name pl) Q E s :=
  getMethod_builtin (typeIs_ba (N.get hm)) BF.plainAttrs_bytearray slot hty (fun b e => by cases e; exact ⟨_, N.get hm, rfl⟩) h
end
theorem c_spliced0 {M : Model} {A : Around} {E : Value → Shared → Prop} {s : Shared} {pos : Pos} {env : Env} {Q : List Value → Shared → Prop} (h : Q [] s) : wpAny M A (spliced (backTo pos (starEach [] env))) Q E s := wpAny_pure h
section
variable {prog : Program} {w : World} {A : Around} {s : Shared} {K : Frag} {env : Env} {pos : Pos} {f : Value} {first : List Value} {Q : Value → Shared → Prop} {h₀ : Heap}
theorem c_callK {e : Expr} {rest : List Expr} (_X : K.In h₀) (hk : keepIn K f = true) (h : wpAny (model prog w) A (spliced (backTo pos (starEach (e :: rest) env))) (fun vs s₁ => K.In s₁.heap ∧ wpC (model prog w) A (call f (first ++ vs)) Q s₁) nE s)
    (hplain : (backTo pos (starEach (e :: rest) env)).all (fun x => !x.1) = true := by rfl) :
    wpC (model prog w) A (callWith pos f first (backTo pos (starEach (e :: rest) env)) []) Q s := c_callWith (keeps_K hk) h hplain
theorem c_callK0 (X : K.In s.heap) (hk : keepIn K f = true) (h : wpC (model prog w) A (call f (first ++ [])) Q s) : wpC (model prog w) A (callWith pos f first (backTo pos (starEach [] env)) []) Q s :=
  c_callWith (keeps_K hk) (c_spliced0 ⟨X, h⟩) rfl
theorem c_callB {e : Expr} {rest : List Expr} (hk : keeperOf f = pure .machine) (h : wpAny (model prog w) A (spliced (backTo pos (starEach (e :: rest) env))) (fun vs s₁ => True ∧ wpC (model prog w) A (call f (first ++ vs)) Q s₁) nE s)
    (hplain : (backTo pos (starEach (e :: rest) env)).all (fun x => !x.1) = true := by rfl) :
    wpC (model prog w) A (callWith pos f first (backTo pos (starEach (e :: rest) env)) []) Q s := c_callWith (P := fun _ => True) (fun _ _ => ⟨_, .inr (.inl rfl), Looks.of_pure hk⟩) h hplain
theorem c_callB0 (hk : keeperOf f = pure .machine) (h : wpC (model prog w) A (call f (first ++ [])) Q s) : wpC (model prog w) A (callWith pos f first (backTo pos (starEach [] env)) []) Q s :=
  c_callWith (P := fun _ => True) (fun _ _ => ⟨_, .inr (.inl rfl), Looks.of_pure hk⟩) (c_spliced0 ⟨trivial, h⟩) rfl
end
end Mine
end
section
open PySem PySem.W PyProof.Rows PySem.Calls Builtin
set_option Elab.async false
namespace Mine
set_option maxRecDepth 100000

def LoopPostX (Gd : Heap → Prop) (L : Addr) (J : Nat → (Str → Option Value) → List (Addr × Obj) → Prop) (i : Nat) (its : List (Addr × Obj)) (R : Flow → Shared → Prop) (s : Shared) (f : Flow) (s₃ : Shared) : Prop :=
  match f with
  | .ret v => R (.ret v) s₃
  | .brk => R .next s₃
  | _ => ∀ G : Prop, (∀ g h' tk m' nx', s₃ = { s with heap := h', toks := tk } → Gd g → Fr g L h' m' → News g L h' (its ++ nx') → (∀ p ∈ nx', p.1 ∉ its.map (·.1)) → J i m' nx' → G) → G
theorem LoopPostX.next {Gd : Heap → Prop} {g : Heap} {L : Addr} {J : Nat → (Str → Option Value) → List (Addr × Obj) → Prop} {i : Nat} {its : List (Addr × Obj)} {R : Flow → Shared → Prop} {s : Shared} {h' : Heap} {tk : Nat} {m' : Str → Option Value} (nx' : List (Addr × Obj)) {news : List (Addr × Obj)}
    (hG : Gd g) (F : Fr g L h' m') (N : News g L h' news) (hs : ∀ p ∈ its ++ nx', p ∈ news) (ho : ∀ p ∈ nx', p.1 ∉ its.map (·.1)) (hj : J i m' nx') : LoopPostX Gd L J i its R s .next { s with heap := h', toks := tk } :=
  fun _ k => k g h' tk m' nx' rfl hG F (fun p hp => N p (hs p hp)) ho hj
theorem LoopPostX.next1 {Gd : Heap → Prop} {g : Heap} {L I : Addr} {oI : Obj} {J : Nat → (Str → Option Value) → List (Addr × Obj) → Prop} {i : Nat} {R : Flow → Shared → Prop} {s : Shared} {h' : Heap} {tk : Nat} {m' : Str → Option Value} (nx' : List (Addr × Obj)) {news : List (Addr × Obj)}
    (hG : Gd g) (F : Fr g L h' m') (N : News g L h' news) (hs : ∀ p ∈ (I, oI) :: nx', p ∈ news) (ho : ∀ p ∈ nx', p.1 ≠ I) (hj : J i m' nx') : LoopPostX Gd L J i [(I, oI)] R s .next { s with heap := h', toks := tk } :=
  .next nx' hG F N hs (fun p hp e => ho p hp (List.mem_singleton.mp e)) hj
theorem LoopPostX.cont1 {Gd : Heap → Prop} {g : Heap} {L I : Addr} {oI : Obj} {J : Nat → (Str → Option Value) → List (Addr × Obj) → Prop} {i : Nat} {R : Flow → Shared → Prop} {s : Shared} {h' : Heap} {tk : Nat} {m' : Str → Option Value} (nx' : List (Addr × Obj)) {news : List (Addr × Obj)}
    (hG : Gd g) (F : Fr g L h' m') (N : News g L h' news) (hs : ∀ p ∈ (I, oI) :: nx', p ∈ news) (ho : ∀ p ∈ nx', p.1 ≠ I) (hj : J i m' nx') : LoopPostX Gd L J i [(I, oI)] R s .cont { s with heap := h', toks := tk } :=
  LoopPostX.next1 (R := R) nx' hG F N hs ho hj
theorem LoopPostX.heap {Gd : Heap → Prop} {L : Addr} {J : Nat → (Str → Option Value) → List (Addr × Obj) → Prop} {i : Nat} {its : List (Addr × Obj)} {R : Flow → Shared → Prop} {s : Shared} {h : Heap} : LoopPostX Gd L J i its R { s with heap := h } = LoopPostX Gd L J i its R s := by
  unfold LoopPostX; rfl
theorem exists_its {h : Heap} : ∀ {as : List Addr}, (∀ b ∈ as, ∃ o, h.get? b = some o) → ∃ its : List (Addr × Obj), its.map (·.1) = as ∧ ∀ p ∈ its, h.get? p.1 = some p.2
  | [], _ => ⟨[], rfl, fun _ hp => nomatch hp⟩
  | a :: as, he => by
    obtain ⟨o, ho⟩ := he a (.head _)
    obtain ⟨its, h1, h2⟩ := exists_its (as := as) fun b hb => he b (.tail _ hb)
    refine ⟨(a, o) :: its, by rw [List.map_cons, h1], fun p hp => ?_⟩
    rcases List.mem_cons.mp hp with rfl | hp
    · exact ho
    · exact h2 p hp
section
variable {prog : Program} {w : World} {A : Around} {s : Shared} {env : Env} {target : PySem.Expr} {body : List Stmt} {R : Flow → Shared → Prop} {g : Heap} {L : Addr} {m : Str → Option Value} {news : List (Addr × Obj)}
theorem letGo_none {M : Model} {E : Value → Shared → Prop} {I : Addr} {o : Obj} {T : String} {v : Value} {Q : Unit → Shared → Prop} (ho : s.heap.get? I = some o) (hc : o.cls = .type T)
    (hT : ["enumerate", "zip", "dict_itemiterator", "dict_reverseitemiterator", "odict_iterator", "itertools.zip_longest", "itertools.pairwise"].contains T = false) (hQ : Q () s) : wpAny M A (letOwnedTupleGo target (.ref I) v) Q E s := by
  have main : wpAny M A (do
      let (.ref r, .ref a) := (Value.ref I, v) | return
      let o ← load r
      match o.cls, o.data with
      | .type n, .fields vs =>
        if ["enumerate", "zip", "dict_itemiterator", "dict_reverseitemiterator", "odict_iterator", "itertools.zip_longest", "itertools.pairwise"].contains n && vs[0]? == some (rawInt a) then
          rule "for.unpacks-the-owned-tuple"
          updateField r 0 .none
      | _, _ => pure ()) Q E s := by
    cases v <;> try exact wpAny_pure hQ
    refine wpAny_bind (wpAny_load ho ?_)
    obtain ⟨cls, d, data, sl⟩ := o
    dsimp only at hc ⊢
    subst hc
    cases data <;> try exact wpAny_pure hQ
    dsimp only
    rw [hT, Bool.false_and]
    exact wpAny_pure hQ
  unfold letOwnedTupleGo
  cases target <;> first | exact wpAny_pure hQ | exact main

/-- what a loop asks of its iterator -/
structure Iter (prog : Program) (w : World) (A : Around) (target : PySem.Expr) (I : Addr) (fpI : List Addr) (kp : List (Addr × Obj)) (n : Nat) (V : Nat → Value → Heap → Prop) (St : Nat → Heap → Prop) : Prop where
  frame : ∀ i h h', St i h → (∀ b ∈ fpI, ∀ o, h.get? b = some o → h'.get? b = some o) → (∀ p ∈ kp, h.get? p.1 = some p.2 → h'.get? p.1 = some p.2) → St i h'
  has : ∀ i h, St i h → ∀ b ∈ fpI, ∃ o, h.get? b = some o
  step : ∀ i (s : Shared) (Q : Value → Shared → Prop), i < n → St i s.heap → (∀ v h' tk, V i v h' → St (i + 1) h' → (∀ b o, b ∉ fpI → s.heap.get? b = some o → h'.get? b = some o) → Q v { s with heap := h', toks := tk }) →
    wpAny (model prog w) A (pyNext (.ref I)) (fun r s₁ => ∃ v, r = some v ∧ wpAny (model prog w) A (letOwnedTupleGo target (.ref I) v) (fun _ s₂ => Q v s₂) nE s₁) nE s
  stop : ∀ (s : Shared) (Q : Shared → Prop), St n s.heap → (∀ h' tk, (∀ b o, b ∉ fpI → s.heap.get? b = some o → h'.get? b = some o) → Q { s with heap := h', toks := tk }) →
    wpAny (model prog w) A (pyNext (.ref I)) (fun r s₁ => r = none ∧ Q s₁) nE s

theorem c_forX {I : Addr} {fpI : List Addr} {kp : List (Addr × Obj)} {n : Nat} {V : Nat → Value → Heap → Prop} {St : Nat → Heap → Prop} (Gd : Heap → Prop) (J : Nat → (Str → Option Value) → List (Addr × Obj) → Prop)
    (W : Iter prog w A target I fpI kp n V St) (hkp : ∀ i g₁ m nx h, Gd g₁ → J i m nx → Fr g₁ L h m → News g₁ L h nx → ∀ p ∈ kp, h.get? p.1 = some p.2) (hst : St 0 s.heap) (hG : Gd g) (F : Fr g L s.heap m) (N : News g L s.heap news)
    (hoff : ∀ p ∈ news, p.1 ∉ fpI) (hIg : ∀ b ∈ fpI, g.get? b = none) (hIL : L ∉ fpI) (h0 : J 0 m news)
    (turn : ∀ i v g₁ m₁ nx h tk its, i < n → V i v h → Gd g₁ → J i m₁ nx → its.map (·.1) = fpI → (∀ p ∈ nx, p.1 ∉ fpI) → Fr g₁ L h m₁ → News g₁ L h (its ++ nx) →
      wpAny (model prog w) A (assign target env v) (fun _ s₂ => wpC (model prog w) A (execs body env) (LoopPostX Gd L J (i + 1) its R s) s₂) nE { s with heap := h, toks := tk })
    (done : ∀ g₁ m₁ nx h tk, Gd g₁ → J n m₁ nx → Fr g₁ L h m₁ → News g₁ L h nx → R .next { s with heap := h, toks := tk }) :
    codeC (model prog w) A (.forLoop target (.ref I) body [] env) R s := by
  obtain ⟨Inv, Ii, Ie⟩ := exP (fun (k : Nat) (s' : Shared) (G : Prop) => ∀ i g₁ h tk m' nx, k = n - i → i ≤ n → s' = { s with heap := h, toks := tk } → St i h → Gd g₁ → (∀ b ∈ fpI, g₁.get? b = none) → Fr g₁ L h m' → News g₁ L h nx → (∀ p ∈ nx, p.1 ∉ fpI) → J i m' nx → G)
  refine codeC_forLoop Inv ?_ n (Ii _ _ fun _ k => k 0 g _ _ m news rfl (Nat.zero_le _) rfl hst hG hIg F N hoff h0)
  intro k s' hk
  refine Ie _ _ _ hk ?_
  intro i g₁ h tk m' nx ek hi es st hG₁ hIg₁ F₁ N₁ off hj
  subst es
  have frF : ∀ {h' : Heap}, (∀ b o, b ∉ fpI → h.get? b = some o → h'.get? b = some o) → Fr g₁ L h' m' := fun hk =>
    ⟨F₁.ns.at fun o e => hk _ _ hIL e, fun b o e => hk b o (fun x => nomatch (hIg₁ b x).symm.trans e) (F₁.keep b o e), F₁.above⟩
  have frN : ∀ {h' : Heap}, (∀ b o, b ∉ fpI → h.get? b = some o → h'.get? b = some o) → News g₁ L h' nx := fun hk p hp => ⟨hk _ _ (off p hp) (N₁ p hp).1, (N₁ p hp).2⟩
  by_cases hlt : i < n
  · have lt : n - (i + 1) < k := ek ▸ Nat.sub_succ_lt_self n i hlt
    have key := W.step i { s with heap := h, toks := tk } (fun v s₁' => wpAny (model prog w) A (assign target env v) (fun _ s₂ => wpC (model prog w) A (execs body env) (fun f s₃ => match f with
          | .next | .cont => ∃ k', k' < k ∧ Inv k' s₃
          | .brk => R .next s₃
          | .ret v => R (.ret v) s₃) s₂) nE s₁') hlt st (by
      intro v h' tk' hV st' hk
      obtain ⟨its, hm, ho⟩ := exists_its (W.has _ _ st')
      have hmem : ∀ p ∈ its, p.1 ∈ fpI := fun p hp => hm ▸ List.mem_map_of_mem hp
      have N₃ : News g₁ L h' (its ++ nx) := fun p hp => (List.mem_append.mp hp).elim (fun hp => ⟨ho p hp, fun e => hIL (e ▸ hmem p hp), hIg₁ _ (hmem p hp)⟩) (frN hk p)
      refine wpAny_mono (turn i v g₁ m' nx h' tk' its hlt hV hG₁ hj hm off (frF hk) N₃) (fun _ s₂ h₂ => c_mono h₂ fun f s₃ h₃ => ?_) fun _ _ x => x
      have fin : LoopPostX Gd L J (i + 1) its R s .next s₃ → ∃ k', k' < k ∧ Inv k' s₃ := fun hZ => hZ _ fun g₂ h'' tk'' m'' nx' e hG₂ F₄ N₄ off' hj' =>
        have N₅ : News g₂ L h'' nx' := fun p hp => N₄ p (List.mem_append_right _ hp)
        have at' : ∀ b ∈ fpI, ∃ p ∈ its, p.1 = b := fun b hb => List.mem_map.mp (hm ▸ hb)
        ⟨_, lt, Ii _ _ fun _ q => q (i + 1) g₂ h'' tk'' m'' nx' rfl hlt e (W.frame _ _ _ st' (fun b hb o hb' => (at' b hb).elim fun p hp => (by
            have e1 := ho p hp.1
            rw [hp.2, hb'] at e1
            rw [Option.some.inj e1, ← hp.2]
            exact (N₄ p (List.mem_append_left _ hp.1)).1)) (fun p hp _ => hkp _ _ _ _ _ hG₂ hj' F₄ N₅ p hp)) hG₂ (fun b hb => (at' b hb).elim fun p hp => hp.2 ▸ (N₄ p (List.mem_append_left _ hp.1)).2.2) F₄ N₅ (hm ▸ off') hj'⟩
      cases f with
      | next => exact fin h₃
      | cont => exact fin h₃
      | brk => exact h₃
      | ret v => exact h₃)
    exact wpAny_mono key (fun r s₁ hr => by
      obtain ⟨v, rfl, hv⟩ := hr
      exact hv) fun _ _ x => x
  · have hi' : i = n := Nat.le_antisymm hi (Nat.not_lt.mp hlt)
    subst hi'
    have key := W.stop { s with heap := h, toks := tk } (fun s₁ => R .next s₁) st fun h' tk' hk => done g₁ m' nx h' tk' hG₁ hj (frF hk) (frN hk)
    exact wpAny_mono key (fun r s₁ hr => by
      obtain ⟨rfl, hr⟩ := hr
      exact hr) fun _ _ x => x
theorem its1 {its : List (Addr × Obj)} {a : Addr} (h : its.map (·.1) = [a]) : ∃ o, its = [(a, o)] := by
  cases its with
  | nil => cases h
  | cons p r =>
    obtain ⟨h1, h2⟩ := List.cons.inj h
    exact ⟨p.2, by rw [← h1, List.map_eq_nil_iff.mp h2]⟩
/-- an iterator of its own object, freshly made -/
theorem c_for1 {oo : Obj} {kp : List (Addr × Obj)} {n : Nat} {V : Nat → Value → Heap → Prop} {St : Nat → Heap → Prop} (Gd : Heap → Prop) (J : Nat → (Str → Option Value) → List (Addr × Obj) → Prop)
    (W : Iter prog w A target s.heap.objs.size [s.heap.objs.size] kp n V St) (hkp : ∀ i g₁ m nx h, Gd g₁ → J i m nx → Fr g₁ L h m → News g₁ L h nx → ∀ p ∈ kp, h.get? p.1 = some p.2) (hst : St 0 (s.heap.push oo)) (hG : Gd g) (F : Fr g L s.heap m) (N : News g L s.heap news) (h0 : J 0 m news)
    (turn : ∀ i v g₁ m₁ nx h tk I oI, i < n → V i v h → Gd g₁ → J i m₁ nx → (∀ p ∈ nx, p.1 ≠ I) → Fr g₁ L h m₁ → News g₁ L h ((I, oI) :: nx) →
      wpAny (model prog w) A (assign target env v) (fun _ s₂ => wpC (model prog w) A (execs body env) (LoopPostX Gd L J (i + 1) [(I, oI)] R s) s₂) nE { s with heap := h, toks := tk })
    (done : ∀ g₁ m₁ nx h tk, Gd g₁ → J n m₁ nx → Fr g₁ L h m₁ → News g₁ L h nx → R .next { s with heap := h, toks := tk }) :
    codeC (model prog w) A (.forLoop target (.ref s.heap.objs.size) body [] env) R { s with heap := s.heap.push oo } := by
  refine c_forX Gd J W hkp hst hG (F.push _) (fun p hp => ⟨Heap.get?_push_of_some _ (N p hp).1, (N p hp).2⟩) (fun p hp e => Nat.ne_of_lt (Heap.lt_size (N p hp).1) (List.mem_singleton.mp e))
    (fun b hb => by rw [List.mem_singleton.mp hb]; exact none_at_size F) (fun e => Nat.ne_of_lt F.ns.lt (List.mem_singleton.mp e)) h0 ?_ done
  intro i v g₁ m₁ nx h tk its hi hv hG₁ hj hm ho F₁ N₁
  obtain ⟨oI, rfl⟩ := its1 hm
  rw [LoopPostX.heap]
  exact turn i v g₁ m₁ nx h tk _ oI hi hv hG₁ hj (fun p hp e => ho p hp (by rw [e]; exact .head _)) F₁ N₁
theorem iter_W {I : Addr} {n : Nat} {P : Nat → Value → Prop} {St : Nat → Heap → Prop} {T : String} (W : Walks prog w A I [I] [I] n P St) (hI : ∀ i h, St i h → ∃ oI, h.get? I = some oI ∧ oI.cls = .type T)
    (hT : ["enumerate", "zip", "dict_itemiterator", "dict_reverseitemiterator", "odict_iterator", "itertools.zip_longest", "itertools.pairwise"].contains T = false) : Iter prog w A target I [I] [] n (fun i v _ => P i v) St :=
  ⟨fun i h h' st k1 _ => W.frame i h h' st k1, fun i h st b hb => (hI i h st).elim fun o ho => ⟨o, List.mem_singleton.mp hb ▸ ho.1⟩,
    fun i s Q hi st hQ => W.item i s _ _ hi st fun v h' tk hv st' hk => ⟨v, rfl, (hI _ _ st').elim fun _ ho => letGo_none ho.1 ho.2 hT (hQ v h' tk hv st' hk)⟩,
    fun s Q st hQ => W.done s _ _ st fun h' tk hk => ⟨rfl, hQ h' tk hk⟩⟩
theorem c_forBytes {b : List UInt8} {tb : Tok} (J : Nat → (Str → Option Value) → List (Addr × Obj) → Prop) (hh : A.handled = none) (F : Fr g L s.heap m) (N : News g L s.heap news) (h0 : J 0 m news)
    (turn : ∀ i c t m₁ nx h tk I oI, i < b.length → b[i]? = some c → J i m₁ nx → (∀ p ∈ nx, p.1 ≠ I) → Fr g L h m₁ → News g L h ((I, oI) :: nx) →
      wpAny (model prog w) A (assign target env (.int (c.toNat : Int) t)) (fun _ s₂ => wpC (model prog w) A (execs body env) (LoopPostX (· = g) L J (i + 1) [(I, oI)] R s) s₂) nE { s with heap := h, toks := tk })
    (done : ∀ m₁ nx h tk, J b.length m₁ nx → Fr g L h m₁ → News g L h nx → R .next { s with heap := h, toks := tk }) :
    wpAny (model prog w) A (pyIter (.bytes b.toArray tb)) (fun it s₂ => codeC (model prog w) A (.forLoop target it body [] env) R s₂) nE s := by
  refine KBw.pyIter_bytes ?_
  have W := KBw.walks (prog := prog) (w := w) hh s.heap.objs.size b.toArray tb
  rw [List.size_toArray] at W
  refine c_for1 (· = g) J (iter_W (T := "bytes_iterator") W (fun i h st => st.elim fun o ho => ⟨o, ho.1, ho.2.1⟩) (by decide)) (fun _ _ _ _ _ _ _ _ _ p hp => nomatch hp) ⟨_, Heap.get?_push_size _ rfl, rfl, rfl⟩ rfl F N h0 ?_ ?_
  · intro i v g₁ m₁ nx h tk I oI hi hv eg hj ho F₁ N₁
    subst eg
    obtain ⟨c, t, hc, rfl⟩ := hv
    exact turn i c t m₁ nx h tk _ oI hi (by simpa using hc) hj ho F₁ N₁
  · intro g₁ m₁ nx h tk eg hj F₁ N₁
    subst eg
    exact done m₁ nx h tk hj F₁ N₁
theorem c_forRangeT {r : Addr} {z : Int} {n : Nat} {t₀ u₀ v₀ : Tok} (Gd : Heap → Prop) (J : Nat → (Str → Option Value) → List (Addr × Obj) → Prop) (hh : A.handled = none) (hr : IsRange s.heap r 0 z 1 t₀ u₀ v₀) (hn : z = (n : Int)) (hz : n ≤ 100000) (hG : Gd g) (F : Fr g L s.heap m) (N : News g L s.heap news) (h0 : J 0 m news)
    (turn : ∀ (i : Nat) t g₁ m₁ nx h tk I oI, i < n → Gd g₁ → J i m₁ nx → (∀ p ∈ nx, p.1 ≠ I) → Fr g₁ L h m₁ → News g₁ L h ((I, oI) :: nx) →
      wpAny (model prog w) A (assign target env (.int (i : Int) t)) (fun _ s₂ => wpC (model prog w) A (execs body env) (LoopPostX Gd L J (i + 1) [(I, oI)] R s) s₂) nE { s with heap := h, toks := tk })
    (done : ∀ g₁ m₁ nx h tk, Gd g₁ → J n m₁ nx → Fr g₁ L h m₁ → News g₁ L h nx → R .next { s with heap := h, toks := tk }) :
    wpAny (model prog w) A (pyIter (.ref r)) (fun it s₂ => codeC (model prog w) A (.forLoop target it body [] env) R s₂) nE s := by
  subst hn
  have hsize : Builtin.Range.rangeSize 0 (n : Int) 1 = (n : Int) := by rw [rangeSize_one]; split <;> omega
  refine wpAny_pyIter_range hr (small_one (by omega) (by omega) (by omega) (by omega)) ?_
  rw [hsize]
  refine c_for1 Gd J (iter_W (T := "range_iterator") (Walks.range (prog := prog) (w := w) hh s.heap.objs.size 0 1 n) (fun i h st => ⟨_, st, rfl⟩) (by decide)) (fun _ _ _ _ _ _ _ _ _ p hp => nomatch hp)
    (by show IsRangeIter _ _ _ _ _; simpa using Heap.get?_push_size _ rfl) hG F N h0 ?_ done
  intro i v g₁ m₁ nx h tk I oI hi hv hG₁ hj ho F₁ N₁
  obtain ⟨t, rfl⟩ := hv
  rw [show (0 : Int) + (i : Int) * 1 = (i : Int) by omega]
  exact turn i t g₁ m₁ nx h tk _ oI hi hG₁ hj ho F₁ N₁
theorem c_forRange {r : Addr} {z : Int} {n : Nat} {t₀ u₀ v₀ : Tok} (J : Nat → (Str → Option Value) → List (Addr × Obj) → Prop) (hh : A.handled = none) (hr : IsRange s.heap r 0 z 1 t₀ u₀ v₀) (hn : z = (n : Int)) (hz : n ≤ 100000) (F : Fr g L s.heap m) (N : News g L s.heap news) (h0 : J 0 m news)
    (turn : ∀ (i : Nat) t m₁ nx h tk I oI, i < n → J i m₁ nx → (∀ p ∈ nx, p.1 ≠ I) → Fr g L h m₁ → News g L h ((I, oI) :: nx) →
      wpAny (model prog w) A (assign target env (.int (i : Int) t)) (fun _ s₂ => wpC (model prog w) A (execs body env) (LoopPostX (· = g) L J (i + 1) [(I, oI)] R s) s₂) nE { s with heap := h, toks := tk })
    (done : ∀ m₁ nx h tk, J n m₁ nx → Fr g L h m₁ → News g L h nx → R .next { s with heap := h, toks := tk }) :
    wpAny (model prog w) A (pyIter (.ref r)) (fun it s₂ => codeC (model prog w) A (.forLoop target it body [] env) R s₂) nE s :=
  c_forRangeT (· = g) J hh hr hn hz rfl F N h0 (fun i t g₁ m₁ nx h tk I oI hi eg => by subst eg; exact turn i t m₁ nx h tk I oI hi) (fun g₁ m₁ nx h tk eg => by subst eg; exact done m₁ nx h tk)
end
end Mine
end
section
open PySem PySem.W PyProof.Rows PySem.Calls
set_option Elab.async false
namespace Mine
/-! The window in plain words: what is in the ring when the octets `t` were put, `w` of them kept -/
def stepW (w : Nat) (p : List UInt8 × Nat) (o : UInt8) : List UInt8 × Nat := (if p.1.length < w then p.1 ++ [o] else p.1.set p.2 o, if p.2 + 1 = w then 0 else p.2 + 1)
def stW (w : Nat) (t : List UInt8) : List UInt8 × Nat := t.foldl (stepW w) ([], 0)
def ringW (w : Nat) (t : List UInt8) : List UInt8 := (stW w t).1
def spotW (w : Nat) (t : List UInt8) : Nat := (stW w t).2
theorem stW_snoc (w : Nat) (t : List UInt8) (o : UInt8) : stW w (t ++ [o]) = stepW w (stW w t) o := by simp [stW]
theorem ringW_snoc (w : Nat) (t : List UInt8) (o : UInt8) : ringW w (t ++ [o]) = if (ringW w t).length < w then ringW w t ++ [o] else (ringW w t).set (spotW w t) o := by
  unfold ringW spotW; rw [stW_snoc]; rfl
theorem spotW_snoc (w : Nat) (t : List UInt8) (o : UInt8) : spotW w (t ++ [o]) = if spotW w t + 1 = w then 0 else spotW w t + 1 := by
  unfold spotW; rw [stW_snoc]; rfl

theorem snoc_ind {p : List UInt8 → Prop} (h0 : p []) (hs : ∀ t o, p t → p (t ++ [o])) (t : List UInt8) : p t := by
  rw [← List.reverse_reverse t]
  induction t.reverse with
  | nil => exact h0
  | cons o r ih => rw [List.reverse_cons]; exact hs _ _ ih

theorem spotW_lt {w : Nat} (hw : 1 ≤ w) (t : List UInt8) : spotW w t < w := by
  induction t using snoc_ind with
  | h0 => exact hw
  | hs t o ih => rw [spotW_snoc]; split <;> omega
theorem spotW_eq {w : Nat} (hw : 1 ≤ w) (t : List UInt8) : spotW w t = t.length % w := by
  induction t using snoc_ind with
  | h0 => simp [spotW, stW]
  | hs t o ih =>
    rw [spotW_snoc, ih, List.length_append, List.length_singleton]
    have hl : t.length % w < w := Nat.mod_lt _ hw
    rw [Nat.add_mod t.length 1 w]
    by_cases h1 : w = 1
    · subst h1; simp [Nat.mod_one]
    · rw [Nat.mod_eq_of_lt (show 1 < w by omega)]
      split
      · rename_i e; rw [e, Nat.mod_self]
      · rename_i h2; rw [Nat.mod_eq_of_lt (show t.length % w + 1 < w by omega)]
theorem ringW_length {w : Nat} (hw : 1 ≤ w) (t : List UInt8) : (ringW w t).length = min t.length w := by
  induction t using snoc_ind with
  | h0 => simp [ringW, stW]
  | hs t o ih =>
    rw [ringW_snoc, List.length_append, List.length_singleton]
    split
    · rw [List.length_append, List.length_singleton]; omega
    · rw [List.length_set]; omega
theorem mod_ne {a j w : Nat} (h1 : j < a) (h2 : a < j + w) : j % w ≠ a % w := by
  intro e
  have hw : 0 < w := by omega
  have ha := Nat.div_add_mod a w
  have hj := Nat.div_add_mod j w
  have hlt := Nat.mod_lt a hw
  rw [← e] at ha
  have : w * (a / w) = w * (j / w) + (a - j) := by omega
  have h3 : a / w ≥ j / w := Nat.div_le_div_right (by omega)
  obtain ⟨k, hk⟩ := Nat.exists_eq_add_of_le h3
  rw [hk, Nat.mul_add] at this
  have hk2 : w * k = a - j := by omega
  cases k with
  | zero => simp at hk2; omega
  | succ k => rw [Nat.mul_succ] at hk2; have := Nat.zero_le (w * k); omega
theorem ringW_get {w : Nat} (hw : 1 ≤ w) (t : List UInt8) : ∀ j, j < t.length → t.length ≤ j + w → (ringW w t)[j % w]? = t[j]? := by
  induction t using snoc_ind with
  | h0 => intro j h; simp at h
  | hs t o ih =>
    intro j hj hjw
    rw [List.length_append, List.length_singleton] at hj hjw
    have hlen := ringW_length hw t
    have hsp := spotW_eq hw t
    have hslt := spotW_lt hw t
    rw [ringW_snoc]
    by_cases e : j = t.length
    · subst e
      rw [List.getElem?_append_right (Nat.le_refl _), Nat.sub_self]
      split
      · rename_i h
        have hm : t.length % w = t.length := Nat.mod_eq_of_lt (by omega)
        rw [hm, List.getElem?_append_right (by omega)]
        have : t.length - (ringW w t).length = 0 := by omega
        rw [this]
      · rw [hsp, List.getElem?_set_self (by rw [hlen]; have := Nat.mod_lt t.length hw; omega)]; rfl
    · have hj' : j < t.length := by omega
      rw [List.getElem?_append_left hj']
      have key := ih j hj' (by omega)
      split
      · rename_i h
        have hm : j % w = j := Nat.mod_eq_of_lt (by omega)
        rw [hm] at key ⊢
        rw [List.getElem?_append_left (by omega)]; exact key
      · rename_i h
        rw [List.getElem?_set_ne (by rw [hsp]; exact (mod_ne hj' (by omega)).symm)]
        exact key
theorem rot_ixA (n w i : Nat) (h : w ≤ n) : (n - w + i) % w = (n % w + i) % w := by
  rw [Nat.mod_add_mod, ← Nat.add_mod_right (n - w + i) w, Nat.add_right_comm, Nat.sub_add_cancel h]
theorem back_ix {s d w : Nat} (h1 : 1 ≤ d) (hd : d ≤ w) (hs : s < w) : (if d ≤ s then s - d else s + w - d) = (s + (w - d)) % w := by
  split
  · rename_i h
    rw [← Nat.add_sub_assoc hd, Nat.add_comm s w, Nat.add_sub_assoc h, Nat.add_mod_left, Nat.mod_eq_of_lt (Nat.lt_of_le_of_lt (Nat.sub_le _ _) hs)]
  · rename_i h
    have : s + w - d < w := by omega
    rw [← Nat.add_sub_assoc hd, Nat.mod_eq_of_lt this]
theorem at_law {w : Nat} (hw : 1 ≤ w) (t : List UInt8) {d : Nat} (h1 : 1 ≤ d) (h2 : d ≤ min t.length w) :
    (ringW w t).getD (if d ≤ spotW w t then spotW w t - d else spotW w t + (ringW w t).length - d) 0 = t.getD (t.length - d) 0 := by
  have hlen := ringW_length hw t
  have hsp := spotW_eq hw t
  have ht : d ≤ t.length := Nat.le_trans h2 (Nat.min_le_left _ _)
  have hdw : d ≤ w := Nat.le_trans h2 (Nat.min_le_right _ _)
  have key := ringW_get hw t (t.length - d) (Nat.sub_lt_of_pos_le h1 ht) (by
    have := Nat.add_le_add_left hdw (t.length - d)
    rwa [Nat.sub_add_cancel ht] at this)
  have e : (if d ≤ spotW w t then spotW w t - d else spotW w t + (ringW w t).length - d) = (t.length - d) % w := by
    rw [hsp, hlen]
    clear key hsp hlen
    rcases Nat.lt_or_ge t.length w with hlt | hge
    · rw [Nat.mod_eq_of_lt hlt, if_pos ht, Nat.mod_eq_of_lt (Nat.lt_of_le_of_lt (Nat.sub_le _ _) hlt)]
    · rw [Nat.min_eq_right hge, back_ix h1 hdw (Nat.mod_lt _ hw), ← rot_ixA _ _ _ hge, ← Nat.add_sub_assoc hdw, Nat.sub_add_cancel hge]
  rw [e]
  simp only [List.getD_eq_getElem?_getD, key]
/-- what `octets` gives -/
theorem ix_rot {s i w : Nat} (h : w ≤ s + i) (hs : s < w) (hi : i < w) : i - (w - s) = s + i - w ∧ s + i - w < s := by omega
theorem rot_ix {n w : Nat} (i : Nat) (h : w ≤ n) : (n - w + i) % w = (n % w + i) % w := by
  rw [Nat.mod_add_mod, ← Nat.add_mod_right (n - w + i) w, Nat.add_right_comm, Nat.sub_add_cancel h]
theorem octets_law {w : Nat} (hw : 1 ≤ w) (t : List UInt8) : (if (ringW w t).length < w then ringW w t else (ringW w t).drop (spotW w t) ++ (ringW w t).take (spotW w t)) = t.drop (t.length - w) := by
  have hlen := ringW_length hw t
  have hsp := spotW_eq hw t
  have hsl := spotW_lt hw t
  have rg := ringW_get hw t
  generalize ringW w t = R at *
  generalize spotW w t = s at *
  split
  · rename_i h
    have htw : t.length < w := by
      rcases Nat.lt_or_ge t.length w with h1 | h1
      · exact h1
      · rw [hlen, Nat.min_eq_right h1] at h; exact absurd h (Nat.lt_irrefl _)
    rw [Nat.min_eq_left (Nat.le_of_lt htw)] at hlen
    rw [Nat.sub_eq_zero_of_le (Nat.le_of_lt htw), List.drop_zero]
    apply List.ext_getElem?
    intro i
    by_cases hi : i < t.length
    · have := rg i hi (Nat.le_trans (Nat.le_of_lt htw) (Nat.le_add_left _ _))
      rwa [Nat.mod_eq_of_lt (Nat.lt_trans hi htw)] at this
    · rw [List.getElem?_eq_none (hlen ▸ Nat.le_of_not_lt hi), List.getElem?_eq_none (Nat.le_of_not_lt hi)]
  · rename_i h
    have hwt : w ≤ t.length := by
      rcases Nat.lt_or_ge t.length w with h1 | h1
      · rw [hlen, Nat.min_eq_left (Nat.le_of_lt h1)] at h; exact absurd h1 h
      · exact h1
    rw [Nat.min_eq_right hwt] at hlen
    apply List.ext_getElem?
    intro i
    rw [List.getElem?_drop]
    by_cases hi : i < w
    · have hlt : t.length - w + i < t.length := by
        have := Nat.add_lt_add_left hi (t.length - w)
        rwa [Nat.sub_add_cancel hwt] at this
      rw [← rg (t.length - w + i) hlt (by rw [Nat.add_right_comm, Nat.sub_add_cancel hwt]; exact Nat.le_add_right _ _), rot_ix i hwt, ← hsp]
      by_cases hs : s + i < w
      · rw [List.getElem?_append_left (by rw [List.length_drop, hlen]; exact Nat.lt_sub_of_add_lt (Nat.add_comm s i ▸ hs)), List.getElem?_drop, Nat.mod_eq_of_lt hs]
      · have hs2 := Nat.le_of_not_lt hs
        obtain ⟨e, hsw⟩ := ix_rot hs2 hsl hi
        rw [List.getElem?_append_right (by rw [List.length_drop, hlen]; exact Nat.sub_le_of_le_add (Nat.add_comm s i ▸ hs2)), List.length_drop, hlen, e, List.getElem?_take, if_pos hsw, Nat.mod_eq_sub_mod hs2, Nat.mod_eq_of_lt (Nat.lt_trans hsw hsl)]
    · rw [List.getElem?_eq_none (by rw [List.length_append, List.length_drop, List.length_take, hlen, Nat.min_eq_left (Nat.le_of_lt hsl), Nat.sub_add_cancel (Nat.le_of_lt hsl)]; exact Nat.le_of_not_lt hi), List.getElem?_eq_none]
      have := Nat.add_le_add_left (Nat.le_of_not_lt hi) (t.length - w)
      rwa [Nat.sub_add_cancel hwt] at this
end Mine
end
section
open PySem PySem.W PyProof.Rows PySem.Calls Builtin
set_option Elab.async false
namespace Mine
set_option maxRecDepth 100000
set_option maxHeartbeats 8000000
set_option hygiene false
local macro_rules | `(tactic| walk_at $s:str) => `(tactic| k_extra $s)
local macro_rules | `(tactic| k_room) => `(tactic| k_extra "my k_room")
local macro_rules | `(tactic| k_ne) => `(tactic| k_extra "my k_ne")
local macro_rules | `(tactic| k_all) => `(tactic| k_extra "my k_all")
local macro_rules | `(tactic| k_allIn) => `(tactic| k_extra "my k_allIn")
local macro_rules | `(tactic| lcg_sub) => `(tactic| k_extra "my lcg_sub")
local macro_rules | `(tactic| k_in) => `(tactic| k_extra "my k_in")
theorem ln_top : True := by
  w_top off
  trivial
theorem ln_pre : True := by
  k_with "mem" => first | exact List.Mem.head _ | exact mem1 | exact mem2 | exact mem3 | exact mem4 | exact mem5 | exact mem6 | exact mem7 | exact mem8 | exact mem9 | exact mem10 | exact mem11 | exact mem12 | exact mem13 | exact mem14 | exact mem15 | exact mem16 | fail "mem: none"
  k_with "my k_room" => ((first | simp only [A9, depth_under_make, depth_under_kw, depth_in1, depth_deeper, depth_caller] | (try simp only [depth_under_make, depth_under_kw, depth_in1, depth_deeper, depth_caller])); first | omega | ((try dsimp only at hd ⊢); omega))
  k_with "enterW" => (refine' code_defW ?k1 ?k2 ?k3 ?k4 ?k5 ?kA ?kF ?kK ?k6 ?k7 ?k8 ?k9 ?kB ?_ ?c2 ?c3 ?c4 ?c5; (case kA => first | assumption | exact rfl); (case kF => first | assumption | exact rfl); (case kK => first | assumption | exact rfl); (case k1 => k_asm); (case k2 => k_asm); (case k3 => k_asm); (case k4 => k_asm); (case k5 => k_asm); (case k6 => k_is); (case k7 => k_is); (case k8 => k_room); (case k9 => first | exact BindsTo.of_eq rfl | exact binds_K (by k_in) rfl (by k_is) rfl rfl rfl | fail "enter: the arguments"); (case c5 => decide); (case kB => exact locs rfl); (case c2 => exact rfl); (case c3 => exact rfl); (case c4 => exact rfl); k_whole; intro g' L' h' F' N' B' X' T' hg'; (refine Cx.useL B' X' T' hA hh hd hu rfl rfl ?_; intro e9 A9 C'); (try dsimp only [winEs] at N'); (try dsimp only); (try k_fold))
  k_with "call builtin:len" => (k_here; (with_reducible show wpAny _ _ (call (Value.builtin "len") [Value.ref _]) _ _ _); k_dflt ((refine len_baN (by k_asm) (by walk_at "mem") ?z ?_; (case z => omega)); intro _ _; (try dsimp only)))
  k_with "call builtin:len" => (k_here; (with_reducible show wpAny _ _ (call (Value.builtin "len") [Value.bytes (List.toArray _) _]) _ _ _); k_dflt ((refine lenB ?z ?_; (case z => ((try simp only [List.length_append, List.length_drop, List.length_take]); omega))); intro _ _; (try dsimp only)))
  k_with "subscriptTail" => (k_here; (with_reducible show wpAny _ _ (subscriptTail _ _ (Value.ref _) (Value.int _ _)) _ _ _); k_dflt ((refine item_baN (by k_asm) (by walk_at "mem") ?z ?h0 ?h1 ?_; (case z => omega); (case h0 => omega); (case h1 => omega)); intro _ _; (try dsimp only)))
  k_with "enterC" => (refine' code_defC ?k1 ?k2 ?k3 ?k4 ?k5 ?kA ?kF ?kK ?k6 ?k7 ?k8 ?k9 ?kB ?_ ?c2 ?c3 ?c4 ?c5; (case kA => first | assumption | exact rfl); (case kF => first | assumption | exact rfl); (case kK => first | assumption | exact rfl); (case k1 => k_asm); (case k2 => k_asm); (case k3 => k_asm); (case k4 => k_asm); (case k5 => k_asm); (case k6 => k_is); (case k7 => k_is); (case k8 => k_room); (case k9 => first | exact BindsTo.of_eq rfl | exact binds_K (by k_in) rfl (by k_is) rfl rfl rfl | fail "enter: the arguments"); (case c5 => decide); (case kB => exact locs rfl); (case c2 => exact rfl); (case c3 => exact rfl); (case c4 => exact rfl); k_whole; intro g' L' h' F' N' B' X' T' hg'; (refine Cx.useCL B' X' T' hA hh hd hu rfl rfl ?_; intro e9 A9 C'); (try dsimp only [winEs] at N'); (try dsimp only); (try k_fold))
  k_with "getMethod ref" => (k_here; (with_reducible show wpAny _ _ (getMethod (Value.ref _) (PySem.Str.ofString "append") _) _ _ _); k_dflt ((refine method_baN BF.slot_bytearray_append BF.type_bytearray_append (by k_asm) (by walk_at "mem") ?_)))
  k_with "cStmt" => ((try dsimp only); (first | with_reducible refine c_consA ?_ | with_reducible refine c_nil ?_ | refine c_consA ?_ | refine c_nil ?_); (try dsimp only); (try k_fold); k_steps)
  k_with "cMeth" => ((try dsimp only); (refine c_cons (c_Expr (c_CallAttr ?_))); (try dsimp only); k_steps)
  k_with "cWith" => ((try dsimp only); (first | (refine' c_callK ?X ?hk ?_; (case X => k_asm); (case hk => k_is)) | (refine' c_callK0 ?X ?hk ?_; (case X => exact Frag.In.keeps (by k_asm) (Fr.keep (by k_asm))); (case hk => k_is)) | (refine c_callB (by rfl) ?_) | (refine c_callB0 (by rfl) ?_)); (try dsimp only); k_steps; (try simp only [List.cons_append, List.nil_append]))
  k_with "cApp" => ((try dsimp only); (rename Fr _ _ _ _ => F'); (rename News _ _ _ _ => N'); (refine append_baN F' N' (by k_updF) ?z ?hx ?_; (case z => omega); (case hx => omega)); intro h' F' N'; (try dsimp only at N' ⊢))
  k_with "my k_ne" => ((refine ne_of_objs (by assumption) (by walk_at "mem") (by walk_at "mem") ?_); first | (exact fun h => absurd (Value.type.inj h) (by decide)) | (exact fun h => Value.noConfusion h) | fail "k_ne: objs")
  k_with "backs" => first | exact List.forall_mem_nil _ | (refine fmc ⟨_, by walk_at "mem"⟩ ?_; walk_at "backs")
  k_with "subs" => first | exact List.forall_mem_nil _ | (refine fmc (by walk_at "mem") ?_; walk_at "subs")
  k_with "modsub" => first | exact List.forall_mem_nil _ | (refine fmc (by first | exact .inl (by walk_at "mem") | exact .inr (by walk_at "mem")) ?_; walk_at "modsub")
  k_with "setItem ref int" => (k_here; (with_reducible show wpAny _ _ (setItem (Value.ref _) (Value.int _ _) (Value.int _ _)) _ _ _); k_dflt ((rename Fr _ _ _ _ => F'); (rename News _ _ _ _ => N'); (refine set_baN F' N' (by k_updF) ?z ?h0 ?h1 ?hx ?_; (case z => omega); (case h0 => omega); (case h1 => omega); (case hx => omega)); intro h' F' N'; (try dsimp only at N' ⊢)))
  k_with "my k_ne" => first | exact offL (by assumption) (by walk_at "mem") | exact offR (by assumption) (by walk_at "mem") | fail "k_ne: off"
  k_with "offs" => first | exact List.forall_mem_nil _ | (refine fmc (by k_ne) ?_; walk_at "offs")
  k_with "mpeq" => (funext y; (repeat' split) <;> first | rfl | contradiction | (subst_vars; with_unfolding_all rfl) | (subst_vars; contradiction) | (simp_all; done))
  k_with "call type:bytes" => (k_here; (with_reducible show wpAny _ _ (call (Value.type "bytes") [Value.ref _]) _ _ _); k_dflt ((refine bytes_baN (by k_asm) (by walk_at "mem") ?z ?_; (case z => ((try simp only [List.length_append, List.length_drop, List.length_take]); omega))); intro _ _; (try dsimp only)))
  k_with "subscriptTail" => (k_here; (with_reducible show wpAny _ _ (subscriptTail _ (Expr.Slice _ _ none _) (Value.ref _) (Value.ref _)) _ _ _); k_dflt ((rename Fr _ _ _ _ => F'); (rename News _ _ _ _ => N'); (refine slice_baN (s := ⟨_, _, _, _, _⟩) F' N' (by walk_at "mem") ?z (by constructor) (by constructor) ?_; (case z => ((try simp only [List.length_append, List.length_drop, List.length_take]); omega))); intro D' h' F' N' l1; (try k_lt l1); (try dsimp only at N' ⊢); (try simp only [cutB_from, cutB_to] at N')))
  k_with "binaryOp Add" => (k_here; (with_reducible show wpAny _ _ (binaryOp Operator.Add (Value.ref _) (Value.ref _)) _ _ _); k_dflt ((rename Fr _ _ _ _ => F'); (rename News _ _ _ _ => N'); (refine add_baN F' N' (by walk_at "mem") (by walk_at "mem") ?z ?_; (case z => ((try simp only [List.length_append, List.length_drop, List.length_take]); omega))); intro D' h' F' N' l1; (try k_lt l1); (try dsimp only at N' ⊢)))
  k_with "subscriptTail" => (k_here; (with_reducible show wpAny _ _ (subscriptTail _ (Expr.Slice _ _ none _) (Value.bytes (List.toArray _) _) (Value.ref _)) _ _ _); k_dflt ((rename Fr _ _ _ _ => F'); (rename News _ _ _ _ => N'); (refine sliceB (s := ⟨_, _, _, _, _⟩) F' N' ?z (by constructor) (by constructor) ?_; (case z => ((try simp only [List.length_append, List.length_drop, List.length_take]); omega))); intro h' tt' tk' F' N'; (try dsimp only)))
  k_with "subscriptTail" => (k_here; (with_reducible show wpAny _ _ (subscriptTail _ _ (Value.bytes (List.toArray _) _) (Value.int _ _)) _ _ _); k_dflt ((first | (refine itemB ?z ?h0 ?h1 ?_; (case z => ((try simp only [List.length_append, List.length_drop, List.length_take]); omega)); (case h0 => omega); (case h1 => omega)) | (refine itemBneg ?z ?h0 ?h1 ?_; (case z => ((try simp only [List.length_append, List.length_drop, List.length_take]); omega)); (case h0 => ((try simp only [List.length_append, List.length_drop, List.length_take]); omega)); (case h1 => omega))); intro _ _; (try dsimp only)))
  k_with "start" => (obtain ⟨B, X, T, hA, hf, hke, hh, hd, hu⟩ := C; obtain ⟨hdl, dp, fr, gd, un⟩ := A; (dsimp only at hA hh); subst hA; subst hh; (have hA : Around.frames ⟨none, dp, some (env :: outer), gd, un⟩ = some (env :: outer) := rfl); (have hh : Around.handled ⟨none, dp, some (env :: outer), gd, un⟩ = none := rfl); revert X; k_fill; intro X)
  k_with "upd" => first | (apply Upd.cons; walk_at "upd") | exact Upd.nil
  k_with "alleq" => first | exact AllEq.nil | (refine AllEq.cons (by with_unfolding_all rfl) ?_; walk_at "alleq")
  k_with "mpU" => (refine' mapEq ?U1 ?U2 ?e1 ?e2; (case U1 => walk_at "upd"); (case U2 => walk_at "upd"); (case e1 => walk_at "alleq"); (case e2 => walk_at "alleq"))
  k_with "nm" => ((try (refine letC ?_; intro s9)); (try ((rename Fr _ _ _ _ => F'); refine letMap F' ?_; clear F'; intro m9 F')))
  k_with "nms" => (try (refine letC ?_; intro s9))
  k_with "execs cons" => (k_here; (with_reducible refine wpAny_execs_cons ?_); (try dsimp only); (refine letA ?_; intro s9); (try ((rename Fr _ _ _ _ => F'); refine letMap F' ?_; clear F'; intro m9 F')))
  k_with "my k_all" => first | exact List.forall_mem_nil _ | (refine fmc (by k_ne) ?_; k_all)
  k_with "my k_allIn" => first | exact List.forall_mem_nil _ | (refine fmc (by k_memK) ?_; k_allIn)
  k_with "my lcg_sub" => first | exact List.forall_mem_nil _ | (refine fmc (by k_mem) (by lcg_sub))
  k_with "my k_in" => ((rename Fr _ _ _ _ => F9); exact Frag.In.keeps X' (Fr.keep F9))
  trivial
/-! text W1 -/
section
variable {w : World} {A A₀ : Around} {s : Shared} {L : Addr} {h₀ base : Heap} {m mg mb : Str → Option Value} {loose : List Str} {mean : ExcName → Option Value} {env : Env} {outer : List Env} {Q : Value → Shared → Prop} {E : Value → Shared → Prop}

theorem have_code {R : Result → Shared → Prop} (C : Cx w A A₀ L h₀ base env outer mean mg mb loose 5 40) (F : Fr h₀ L s.heap m)
    {x dx rg : Addr} {k1 k2 k3 k4 t1 t2 t4 : Tok} {sz tot sp : Int} {bs : List UInt8}
    (N : News h₀ L s.heap [(x, instObj 159 dx), (dx, dictOf (winEs w.params k1 k2 k3 k4 sz tot sp t1 t2 t4 rg) 4), (rg, baO bs)]) (hz : bs.length ≤ 100000)
    (ret : ∀ h' t tk, Fr h₀ L h' m → Kept s.heap h' [] → R (.ok (.ret (.int bs.length t))) { s with heap := h', toks := tk }) :
    codeAny (model PySem.Challenge.rw_tg0040_01.row.prog w) A (.call (.ref 106) ⟨[.ref x], []⟩) R s := by
  obtain ⟨B, X, T, hA, hf, hke, hh, hd, hu⟩ := C
  revert X; k_fill; intro X
  k_dflt walk_at "enterW"
  k_steps
  exact BackW.fin (by assumption) N (by assumption) hg' (by simp) fun F K => ret _ _ _ F K
theorem have_get {expr : Bool} (C : Cx w A A₀ L h₀ base env outer mean mg mb loose 5 41) (F : Fr h₀ L s.heap m)
    {x dx rg : Addr} {k1 k2 k3 k4 t1 t2 t4 : Tok} {sz tot sp : Int} {bs : List UInt8}
    (N : News h₀ L s.heap [(x, instObj 159 dx), (dx, dictOf (winEs w.params k1 k2 k3 k4 sz tot sp t1 t2 t4 rg) 4), (rg, baO bs)]) (hz : bs.length ≤ 100000)
    (ret : ∀ h' t tk, Fr h₀ L h' m → Kept s.heap h' [] → Q (.int bs.length t) { s with heap := h', toks := tk }) :
    wpAny (model PySem.Challenge.rw_tg0040_01.row.prog w) A (getAttr (.ref x) (Str.ofString "have") expr) Q E s := by
  have X := C.X
  revert X; k_fill; intro X
  refine' get_prop F X (InstAt.of_news N ?h1 ?h2) ?a1 ?a2 ?a3 ?a4 ?a5 ?a6 ?_
  case h1 => k_mem
  case h2 => k_mem
  case a1 => k_is
  case a2 => k_is
  case a3 => k_is
  case a4 => k_is
  case a5 => k_is
  case a6 => k_is
  refine have_code (s := { s with toks := s.toks + 1 }) (C.in1 (by omega)) F N hz fun h' t tk F' K' => ?_
  exact wpAny_of_eq rfl (ret h' t tk F' K')

theorem ln_W1_1 : True := by
  k_with "getAttr ref" => (k_here; (with_reducible show wpAny _ _ (getAttr (Value.ref _) (PySem.Str.ofString "have") _) _ _ _); k_dflt ((rename Fr _ _ _ _ => F'); (rename News _ _ _ _ => N'); (refine have_get (C'.mono (by omega) (by omega)) F' (News.three N' (by walk_at "mem") (by walk_at "mem") (by walk_at "mem")) ?z ?_; (case z => omega)); intro h' t' tk' F' K'; (replace N' := Kept.news K' N' (fun _ h => h) (fun _ _ h => nomatch h)); (try dsimp only at N')))
  trivial
theorem need_ok (C : Cx w A A₀ L h₀ base env outer mean mg mb loose 15 60) (F : Fr h₀ L s.heap m)
    {x dx rg : Addr} {k1 k2 k3 k4 t1 t2 t4 td : Tok} {sz tot sp d : Int} {bs : List UInt8}
    (N : News h₀ L s.heap [(x, instObj 159 dx), (dx, dictOf (winEs w.params k1 k2 k3 k4 sz tot sp t1 t2 t4 rg) 4), (rg, baO bs)]) (hz : bs.length ≤ 100000) (hok : 1 ≤ d ∧ d ≤ bs.length)
    (ret : ∀ h' tk, Fr h₀ L h' m → Kept s.heap h' [] → Q .none { s with heap := h', toks := tk }) :
    wpAny (model PySem.Challenge.rw_tg0040_01.row.prog w) A (call (.ref 128) [.ref x, .int d td]) Q E s := by
  obtain ⟨B, X, T, hA, hf, hke, hh, hd, hu⟩ := C
  revert X; k_fill; intro X
  refine wpAny_call ?_
  k_dflt walk_at "enterW"
  k_steps
  exact BackW.fin (by assumption) N (by assumption) hg' (by simp) fun F K => ret _ _ F K
theorem ln_W1_2 : True := by
  k_with "call ref" => (k_here; (with_reducible show wpAny _ _ (call (Value.ref 128) _) _ _ _); k_dflt ((rename Fr _ _ _ _ => F'); (rename News _ _ _ _ => N'); (refine need_ok (C'.mono (by omega) (by omega)) F' (News.three N' (by walk_at "mem") (by walk_at "mem") (by walk_at "mem")) ?z ?z2 ?_; (case z => omega); (case z2 => omega)); intro h' tk' F' K'; (replace N' := Kept.news K' N' (fun _ h => h) (fun _ _ h => nomatch h)); (try dsimp only at N')))
  trivial
theorem at_ok (C : Cx w A A₀ L h₀ base env outer mean mg mb loose 25 80) (F : Fr h₀ L s.heap m)
    {x dx rg : Addr} {k1 k2 k3 k4 t1 t2 t4 td : Tok} {sz tot sp d : Int} {bs : List UInt8}
    (N : News h₀ L s.heap [(x, instObj 159 dx), (dx, dictOf (winEs w.params k1 k2 k3 k4 sz tot sp t1 t2 t4 rg) 4), (rg, baO bs)]) (hz : bs.length ≤ 100000) (hok : 1 ≤ d ∧ d ≤ bs.length) (hsp : 0 ≤ sp ∧ sp ≤ bs.length)
    (ret : ∀ h' t tk (v : Int), v = (bs.getD (if d ≤ sp then sp - d else sp - d + bs.length).toNat 0).toNat → Fr h₀ L h' m → Kept s.heap h' [] → Q (.int v t) { s with heap := h', toks := tk }) :
    wpAny (model PySem.Challenge.rw_tg0040_01.row.prog w) A (call (.ref 135) [.ref x, .int d td]) Q E s := by
  obtain ⟨B, X, T, hA, hf, hke, hh, hd, hu⟩ := C
  revert X; k_fill; intro X
  refine wpAny_call ?_
  k_dflt walk_at "enterW"
  k_steps
  · exact BackW.fin (by assumption) N (by assumption) hg' (by simp) fun F K => ret _ _ _ _ (by rw [if_pos (by omega)]) F K
  · exact BackW.fin (by assumption) N (by assumption) hg' (by simp) fun F K => ret _ _ _ _ (by rw [if_neg (by omega)]) F K

end

/-! text W2 -/
section
variable {w : World} {A A₀ : Around} {s : Shared} {L : Addr} {h₀ base : Heap} {m mg mb : Str → Option Value} {loose : List Str} {mean : ExcName → Option Value} {env : Env} {outer : List Env} {Q : Value → Shared → Prop} {E : Value → Shared → Prop}

/-- the ring and its spot behind one more octet -/
def ringPut (bs : List UInt8) (sz sp : Int) (o : UInt8) : List UInt8 := if (bs.length : Int) < sz then bs ++ [o] else bs.set sp.toNat o
def spotPut (sz sp : Int) : Int := if sp + 1 = sz then 0 else sp + 1

theorem put_spec {Q : Value → Shared → Prop} (C : Cx w A A₀ L h₀ base env outer mean mg mb loose 15 60) (F : Fr h₀ L s.heap m)
    {x dx rg : Addr} {k1 k2 k3 k4 t1 t2 t4 td : Tok} {sz tot sp o : Int} {bs : List UInt8}
    (N : News h₀ L s.heap [(x, instObj 159 dx), (dx, dictOf (winEs w.params k1 k2 k3 k4 sz tot sp t1 t2 t4 rg) 4), (rg, baO bs)]) (hz : bs.length ≤ 100000) (ho : 0 ≤ o ∧ o < 256) (hsz : bs.length ≤ sz) (hsp : 0 ≤ sp ∧ (bs.length = sz → sp < bs.length))
    (ret : ∀ h' t1 t2 t4 tk, Fr h₀ L h' m → Kept s.heap h' [dx, rg] → News h₀ L h' [(x, instObj 159 dx), (dx, dictOf (winEs w.params k1 k2 k3 k4 sz (tot + 1) (spotPut sz sp) t1 t2 t4 rg) 4), (rg, baO (ringPut bs sz sp o.toNat.toUInt8))] → Q .none { s with heap := h', toks := tk }) :
    wpC (model PySem.Challenge.rw_tg0040_01.row.prog w) A (call (.ref 114) [.ref x, .int o td]) Q s := by
  obtain ⟨B, X, T, hA, hf, hke, hh, hd, hu⟩ := C
  revert X; k_fill; intro X
  refine c_call ?_
  k_dflt walk_at "enterC"
  refine c_fold ?_
  intro q0 hq0
  refine c_cons (c_If ?_)
  k_steps
  · walk_at "cMeth"
    walk_at "cWith"
    walk_at "cApp"
    repeat' (walk_at "cStmt")
    all_goals refine hq0 _ _ (BackW.fin (mods := [dx, rg]) (by assumption) N (by assumption) hg' (by walk_at "modsub") fun F K => ⟨_, rfl, ret _ _ _ _ _ F K (by simpa only [ringPut, spotPut, if_pos (show (bs.length : Int) < sz by omega), *, if_true, if_false] using (News.back N (by assumption) (by walk_at "backs")))⟩)
  · repeat' (walk_at "cStmt")
    all_goals refine hq0 _ _ (BackW.fin (mods := [dx, rg]) (by assumption) N (by assumption) hg' (by walk_at "modsub") fun F K => ⟨_, rfl, ret _ _ _ _ _ F K (by simpa only [ringPut, spotPut, if_neg (show ¬ (bs.length : Int) < sz by omega), *, if_true, if_false] using (News.back N (by assumption) (by walk_at "backs")))⟩)
end

/-! text W3 -/
structure WT where
  (k1 k2 k3 k4 t1 t2 t4 : Tok)
/-- the dict of a window of `w` octets where the octets `t` were put -/
abbrev winD (P : Params) (τ : WT) (w : Nat) (t : List UInt8) (rg : Addr) : Obj := dictOf (winEs P τ.k1 τ.k2 τ.k3 τ.k4 (w : Int) (t.length : Int) (spotW w t : Int) τ.t1 τ.t2 τ.t4 rg) 4
section
variable {w : World} {A A₀ : Around} {s : Shared} {L : Addr} {h₀ base : Heap} {m mg mb : Str → Option Value} {loose : List Str} {mean : ExcName → Option Value} {env : Env} {outer : List Env} {Q : Value → Shared → Prop} {E : Value → Shared → Prop} {news : List (Addr × Obj)} {x dx rg : Addr} {τ : WT} {wd : Nat} {t : List UInt8}
theorem toNat_u8 {o : Int} (h : 0 ≤ o ∧ o < 256) : ((o.toNat.toUInt8).toNat : Int) = o := by
  have : o.toNat.toUInt8.toNat = o.toNat := by
    rw [UInt8.toNat_ofNat']; omega
  omega

theorem put_win (C : Cx w A A₀ L h₀ base env outer mean mg mb loose 15 60) (F : Fr h₀ L s.heap m) (N : News h₀ L s.heap news) (hx : (x, instObj 159 dx) ∈ news) (hd : (dx, winD w.params τ wd t rg) ∈ news) (hr : (rg, baO (ringW wd t)) ∈ news)
    {o : Int} {td : Tok} (hw : 1 ≤ wd ∧ wd ≤ 100000) (ho : 0 ≤ o ∧ o < 256)
    (ret : ∀ h' τ' tk, Fr h₀ L h' m → Kept s.heap h' [dx, rg] → h'.get? dx = some (winD w.params τ' wd (t ++ [o.toNat.toUInt8]) rg) → h'.get? rg = some (baO (ringW wd (t ++ [o.toNat.toUInt8]))) → Q .none { s with heap := h', toks := tk }) :
    wpC (model PySem.Challenge.rw_tg0040_01.row.prog w) A (call (.ref 114) [.ref x, .int o td]) Q s := by
  have hlen := ringW_length hw.1 t
  have hsl := spotW_lt hw.1 t
  have hse := spotW_eq hw.1 t
  refine put_spec C F (News.three N hx hd hr) (by omega) ho (by omega) (by refine ⟨by omega, fun e => ?_⟩; omega) fun h' t1 t2 t4 tk F' K' N' => ?_
  have e1 : ringPut (ringW wd t) (wd : Int) (spotW wd t : Int) o.toNat.toUInt8 = ringW wd (t ++ [o.toNat.toUInt8]) := by
    rw [ringW_snoc, ringPut]
    by_cases h : (ringW wd t).length < wd
    · rw [if_pos h, if_pos (by omega)]
    · rw [if_neg h, if_neg (by omega)]; rfl
  have e2 : spotPut (wd : Int) (spotW wd t : Int) = (spotW wd (t ++ [o.toNat.toUInt8]) : Int) := by
    rw [spotW_snoc, spotPut]
    by_cases h : spotW wd t + 1 = wd
    · rw [if_pos h, if_pos (by omega)]; rfl
    · rw [if_neg h, if_neg (by omega)]; omega
  rw [e1, e2] at N'
  have e3 : (t.length : Int) + 1 = ((t ++ [o.toNat.toUInt8]).length : Int) := by rw [List.length_append, List.length_singleton]; omega
  rw [e3] at N'
  exact ret h' ⟨τ.k1, τ.k2, τ.k3, τ.k4, t1, t2, t4⟩ tk F' K' (N' _ (.tail _ (.head _))).1 (N' _ (.tail _ (.tail _ (.head _)))).1

theorem at_win (C : Cx w A A₀ L h₀ base env outer mean mg mb loose 25 80) (F : Fr h₀ L s.heap m) (N : News h₀ L s.heap news) (hx : (x, instObj 159 dx) ∈ news) (hd : (dx, winD w.params τ wd t rg) ∈ news) (hr : (rg, baO (ringW wd t)) ∈ news)
    {d : Int} {td : Tok} (hw : 1 ≤ wd ∧ wd ≤ 100000) (hok : 1 ≤ d ∧ d ≤ t.length ∧ d ≤ wd)
    (ret : ∀ h' tt tk, Fr h₀ L h' m → Kept s.heap h' [] → Q (.int ((t.getD (t.length - d.toNat) 0).toNat : Int) tt) { s with heap := h', toks := tk }) :
    wpAny (model PySem.Challenge.rw_tg0040_01.row.prog w) A (call (.ref 135) [.ref x, .int d td]) Q E s := by
  have hlen := ringW_length hw.1 t
  have hsl := spotW_lt hw.1 t
  have hse := spotW_eq hw.1 t
  have hmod : t.length < wd → t.length % wd = t.length := Nat.mod_eq_of_lt
  refine at_ok C F (News.three N hx hd hr) (by omega) (by omega) (by refine ⟨by omega, ?_⟩; by_cases h : t.length < wd <;> omega) fun h' tt tk v hv F' K' => ?_
  have key := at_law hw.1 t (d := d.toNat) (by omega) (by omega)
  have e : (if d ≤ (spotW wd t : Int) then (spotW wd t : Int) - d else (spotW wd t : Int) - d + (ringW wd t).length).toNat = if d.toNat ≤ spotW wd t then spotW wd t - d.toNat else spotW wd t + (ringW wd t).length - d.toNat := by
    by_cases h : d.toNat ≤ spotW wd t
    · rw [if_pos h, if_pos (by omega)]; omega
    · rw [if_neg h, if_neg (by omega)]; omega
  rw [hv, e, key]
  exact ret h' tt tk F' K'
end

/-! text W4 -/
/-- a frame's names, written out -/
abbrev mp (l : List (Str × Value)) : Str → Option Value := fun y => l.lookup y
theorem upd_intro (m : Str → Option Value) (x : Str) : m = fun y => if y = x then m x else m y := by funext y; split <;> simp_all
theorem upd_same (m : Str → Option Value) (x : Str) (u v : Option Value) : (fun y => if y = x then v else (fun y => if y = x then u else m y) y) = fun y => if y = x then v else m y := by funext y; split <;> simp_all
theorem take_snoc {b : List UInt8} {i : Nat} {c : UInt8} (h : b[i]? = some c) : b.take (i + 1) = b.take i ++ [c] := by rw [List.take_add_one, h]; rfl
theorem u8_toNat (c : UInt8) : (c.toNat : Int).toNat.toUInt8 = c := by simp
theorem ln_W4_1 : True := by
  k_with "cPut" => ((try dsimp only); (rename Fr _ _ _ _ => F'); (rename News _ _ _ _ => N'); (refine put_win (C'.mono (by omega) (by omega)) F' N' (by walk_at "mem") (by walk_at "mem") (by walk_at "mem") ?hw ?ho ?_; (case hw => omega); (case ho => omega)); intro h' τ' tk' F' K' e1 e2; (replace N' := News.put2 N' K' (by k_updF) e1 (by k_updF) e2); (try dsimp only at N' ⊢))
  trivial
section
variable {w : World} {A A₀ : Around} {s : Shared} {L : Addr} {h₀ base : Heap} {m mg mb : Str → Option Value} {loose : List Str} {mean : ExcName → Option Value} {env : Env} {outer : List Env} {Q : Value → Shared → Prop} {E : Value → Shared → Prop} {news : List (Addr × Obj)} {x dx rg : Addr} {τ : WT} {wd : Nat} {t : List UInt8}

theorem feed_win (C : Cx w A A₀ L h₀ base env outer mean mg mb loose 25 90) (F : Fr h₀ L s.heap m) (N : News h₀ L s.heap news) (hx : (x, instObj 159 dx) ∈ news) (hd : (dx, winD w.params τ wd t rg) ∈ news) (hr : (rg, baO (ringW wd t)) ∈ news)
    {b : List UInt8} {tb : Tok} (hw : 1 ≤ wd ∧ wd ≤ 100000)
    (ret : ∀ h' τ' tk, Fr h₀ L h' m → Kept s.heap h' [dx, rg] → h'.get? dx = some (winD w.params τ' wd (t ++ b) rg) → h'.get? rg = some (baO (ringW wd (t ++ b))) → Q .none { s with heap := h', toks := tk }) :
    wpC (model PySem.Challenge.rw_tg0040_01.row.prog w) A (call (.ref 121) [.ref x, .bytes b.toArray tb]) Q s := by
  replace N := News.three N hx hd hr
  clear hx hd hr
  obtain ⟨B, X, T, hA, hf, hke, hh, hd, hu⟩ := C
  revert X; k_fill; intro X
  refine c_call ?_
  k_dflt walk_at "enterC"
  refine c_fold ?_
  intro q0 hq0
  refine c_cons (c_For ?_)
  k_steps
  replace F' : Fr g' L' h' (mp [(Str.ofString "octets", .bytes b.toArray tb), (Str.ofString "self", .ref x)]) := F'
  obtain ⟨J1, J1i, J1e⟩ := exJ (fun (i : Nat) (m' : Str → Option Value) (nx : List (Addr × Obj)) (G : Prop) => ∀ u τ', m' = (fun y => if y = Str.ofString "octet" then u else mp [(Str.ofString "octets", .bytes b.toArray tb), (Str.ofString "self", .ref x)] y) → nx = [(x, instObj 159 dx), (dx, winD w.params τ' wd (t ++ b.take i) rg), (rg, baO (ringW wd (t ++ b.take i)))] → G)
  refine c_forBytes J1 hh F' N' (J1i _ _ _ fun G k => k _ τ (upd_intro _ _) (by simp)) ?_ ?_
  · rintro i c tc m₁ nx h' tk' I oI hi hc hJ1 off F' N'
    refine c_foldA ?_
    intro q1 hq1
    refine J1e _ _ _ _ hJ1 ?_
    clear hJ1
    rintro u τ' rfl rfl
    have hc256 := c.toNat_lt
    k_steps
    walk_at "cMeth"
    walk_at "cWith"
    walk_at "cPut"
    refine c_nil ?_
    rw [u8_toNat, List.append_assoc, ← take_snoc hc] at N'
    exact hq1 _ _ (LoopPostX.next1 [(x, instObj 159 dx), (dx, winD w.params τ' wd (t ++ b.take (i + 1)) rg), (rg, baO (ringW wd (t ++ b.take (i + 1))))] rfl F' N' (by walk_at "subs") (by walk_at "offs") (J1i _ _ _ fun G k => k _ _ (upd_same _ _ _ _) rfl))
  · rintro m₁ nx h' tk' hJ1 F' N'
    refine J1e _ _ _ _ hJ1 ?_
    clear hJ1
    rintro u τ' rfl rfl
    refine c_nil ?_
    rw [List.take_length] at N'
    exact hq0 _ _ (BackW.fin (mods := [dx, rg]) F' N N' hg' (by walk_at "modsub") fun F K => ⟨_, rfl, ret _ _ _ F K (N' _ (.tail _ (.head _))).1 (N' _ (.tail _ (.tail _ (.head _)))).1⟩)
end

/-! text W5 -/
/-- `n` octets more, each the one `d` behind the end -/
def lz (t : List UInt8) (d : Nat) : Nat → List UInt8
  | 0 => t
  | n + 1 => lz t d n ++ [(lz t d n).getD ((lz t d n).length - d) 0]
theorem lz_length (t : List UInt8) (d n : Nat) : (lz t d n).length = t.length + n := by
  induction n with
  | zero => rfl
  | succ n ih => rw [lz, List.length_append, ih, List.length_singleton]; omega
theorem lz_drop (t : List UInt8) (d n : Nat) : (lz t d (n + 1)).drop t.length = (lz t d n).drop t.length ++ [(lz t d n).getD ((lz t d n).length - d) 0] := by
  rw [lz, List.drop_append_of_le_length (by rw [lz_length]; omega)]
theorem ln_W5_1 : True := by
  k_with "call ref" => (k_here; (with_reducible show wpAny _ _ (call (Value.ref 135) _) _ _ _); k_dflt ((rename Fr _ _ _ _ => F'); (rename News _ _ _ _ => N'); (refine at_win (C'.mono (by omega) (by omega)) F' N' (by walk_at "mem") (by walk_at "mem") (by walk_at "mem") ?z ?z2 ?_; (case z => omega); (case z2 => omega)); intro h' tt' tk' F' K'; (replace N' := Kept.news K' N' (fun _ h => h) (fun _ _ h => nomatch h)); (try dsimp only at N')))
  k_with "cNewBA0" => ((try dsimp only); (rename Fr _ _ _ _ => F'); (rename News _ _ _ _ => N'); (refine new_baN (v := none) F' N' (fun _ h => nomatch h) ?_); intro D' h' F' N' l1; (try k_lt l1); (try dsimp only [baL] at N' ⊢))
  trivial
section
variable {w : World} {A A₀ : Around} {s : Shared} {L : Addr} {h₀ base : Heap} {m mg mb : Str → Option Value} {loose : List Str} {mean : ExcName → Option Value} {env : Env} {outer : List Env} {Q : Value → Shared → Prop} {E : Value → Shared → Prop} {news : List (Addr × Obj)} {x dx rg : Addr} {τ : WT} {wd : Nat} {t : List UInt8}

theorem copy_win (C : Cx w A A₀ L h₀ base env outer mean mg mb loose 35 120) (F : Fr h₀ L s.heap m) (N : News h₀ L s.heap news) (hx : (x, instObj 159 dx) ∈ news) (hd : (dx, winD w.params τ wd t rg) ∈ news) (hr : (rg, baO (ringW wd t)) ∈ news)
    {d n : Nat} {td tn : Tok} (hw : 1 ≤ wd ∧ wd ≤ 100000) (hok : 1 ≤ d ∧ d ≤ t.length ∧ d ≤ wd) (hn : n ≤ 100000)
    (ret : ∀ h' τ' tt tk, Fr h₀ L h' m → Kept s.heap h' [dx, rg] → h'.get? dx = some (winD w.params τ' wd (lz t d n) rg) → h'.get? rg = some (baO (ringW wd (lz t d n))) → Q (.bytes ((lz t d n).drop t.length).toArray tt) { s with heap := h', toks := tk }) :
    wpC (model PySem.Challenge.rw_tg0040_01.row.prog w) A (call (.ref 142) [.ref x, .int (d : Int) td, .int (n : Int) tn]) Q s := by
  replace N := News.three N hx hd hr
  clear hx hd hr
  have hrl := ringW_length hw.1 t
  obtain ⟨B, X, T, hA, hf, hke, hh, hd, hu⟩ := C
  revert X; k_fill; intro X
  refine c_call ?_
  k_dflt walk_at "enterC"
  refine c_fold ?_
  intro q0 hq0
  walk_at "nm"
  walk_at "cStmt"
  walk_at "nm"
  refine c_cons (c_AssignName (c_CallName ?_))
  k_steps
  refine c_callB0 (by rfl) ?_
  walk_at "cNewBA0"
  k_steps
  walk_at "nm"
  refine c_cons (c_For ?_)
  k_steps
  (rename Fr _ _ _ _ => F'); (rename News _ _ _ _ => N'); (rename IsRange _ _ _ _ _ _ _ _ => hR)
  replace F' : Fr g' L' _ (fun y => if y = Str.ofString "told" then some (.ref D') else mp [(Str.ofString "length", .int (n : Int) tn), (Str.ofString "distance", .int (d : Int) td), (Str.ofString "self", .ref x)] y) := F'
  obtain ⟨J1, J1i, J1e⟩ := exJ (fun (i : Nat) (m' : Str → Option Value) (nx : List (Addr × Obj)) (G : Prop) => ∀ u1 u2 τ', m' = (fun y => if y = Str.ofString "octet" then u2 else if y = Str.ofString "turn" then u1 else if y = Str.ofString "told" then some (.ref D') else mp [(Str.ofString "length", .int (n : Int) tn), (Str.ofString "distance", .int (d : Int) td), (Str.ofString "self", .ref x)] y) → nx = [(D', baO ((lz t d i).drop t.length)), (x, instObj 159 dx), (dx, winD w.params τ' wd (lz t d i) rg), (rg, baO (ringW wd (lz t d i)))] → G)
  refine c_forRange J1 hh hR rfl hn F' N' (J1i _ _ _ fun G k => k none none τ (by walk_at "mpU") (by simp [lz])) ?_ ?_
  · rintro i ti m₁ nx h' tk' I oI hi hJ1 off F' N'
    refine c_foldA ?_
    intro q1 hq1
    refine J1e _ _ _ _ hJ1 ?_
    clear hJ1
    rintro u1 u2 τ' rfl rfl
    have hl := lz_length t d i
    have hll := ringW_length hw.1 (lz t d i)
    have hld : ((lz t d i).drop t.length).length = i := by rw [List.length_drop]; omega
    k_steps
    walk_at "nm"
    walk_at "cStmt"
    walk_at "nm"
    walk_at "cMeth"
    walk_at "cWith"
    have hb := ((lz t d i).getD ((lz t d i).length - (d : Int).toNat) 0).toNat_lt
    walk_at "cPut"
    walk_at "nm"
    walk_at "cMeth"
    walk_at "cWith"
    walk_at "cApp"
    refine c_nil ?_
    have e0 : (d : Int).toNat = d := by omega
    rw [u8_toNat, e0, ← lz_drop] at N'
    exact hq1 _ _ (LoopPostX.next1 [(D', baO ((lz t d (i + 1)).drop t.length)), (x, instObj 159 dx), (dx, winD w.params τ' wd (lz t d (i + 1)) rg), (rg, baO (ringW wd (lz t d (i + 1))))] rfl F' N' (by walk_at "subs") (by walk_at "offs") (J1i _ _ _ fun G k => k _ _ _ (by walk_at "mpU") rfl))
  · rintro m₁ nx h' tk' hJ1 F' N'
    refine J1e _ _ _ _ hJ1 ?_
    clear hJ1
    rintro u1 u2 τ' rfl rfl
    have hll := lz_length t d n
    have hld : ((lz t d n).drop t.length).length = n := by rw [List.length_drop]; omega
    walk_at "nm"
    walk_at "cStmt"
    exact hq0 _ _ (BackW.fin (mods := [dx, rg]) F' N N' hg' (by walk_at "modsub") fun F K => ⟨_, rfl, ret _ _ _ _ F K (N' _ (.tail _ (.tail _ (.head _)))).1 (N' _ (.tail _ (.tail _ (.tail _ (.head _))))).1⟩)
end

/-! text W6 -/
theorem fresh_of {h₁ h g : Heap} {L a : Addr} {o : Obj} {news news' : List (Addr × Obj)} (hg : ∀ b o, h₁.get? b = some o → b ∉ news.map (·.1) → g.get? b = some o) (N' : News g L h news') (hm : (a, o) ∈ news') (hall : ∀ p ∈ news, p.1 ≠ a) : h₁.get? a = none := by
  cases e : h₁.get? a with
  | none => rfl
  | some o' =>
    have := hg _ _ e (fun hx => by obtain ⟨p, hp, e2⟩ := List.mem_map.mp hx; exact hall p hp e2)
    rw [(N' _ hm).2.2] at this; cases this
theorem fresh_of2 {h₁ h g : Heap} {L L' a : Addr} {m : Str → Option Value} {news news' : List (Addr × Obj)} (hg : ∀ b o, h₁.get? b = some o → b ∉ news.map (·.1) → g.get? b = some o) (F' : Fr g L h m) (N' : News g L' h news') (fr : h.get? a = none) (hb : ∀ p ∈ news, ∃ o, (p.1, o) ∈ news') : h₁.get? a = none := by
  cases e : h₁.get? a with
  | none => rfl
  | some o' =>
    by_cases hx : a ∈ news.map (·.1)
    · obtain ⟨p, hp, rfl⟩ := List.mem_map.mp hx
      obtain ⟨o, ho⟩ := hb p hp
      rw [(N' _ ho).1] at fr; cases fr
    · rw [F'.keep _ _ (hg _ _ e hx)] at fr; cases fr
theorem Cx.make {w : World} {A A₀ : Around} {L : Addr} {h₀ base : Heap} {env : Env} {outer : List Env} {mean : ExcName → Option Value} {mg mb : Str → Option Value} {loose : List Str} {k u k' u' : Nat} {C : Addr} {rest : List Value}
    (X : Cx w A A₀ L h₀ base env outer mean mg mb loose k u) (hk : k' + 1 ≤ k) (hu : u' + 1 ≤ u) : Cx w (A.under (.builtin "type.__call__" ⟨.ref C :: rest, []⟩)) A₀ L h₀ base env outer mean mg mb loose k' u' :=
  ⟨X.B, X.X, X.T, X.hA, X.hf, X.hke, X.hh, by have := X.hd; show A.depth + 1 + k' < _; omega, by have := X.hu; show A.units + 1 + u' < _; omega⟩
abbrev win2 (P : Params) (k1 k2 : Tok) (sz tot : Int) (t1 t2 : Tok) : List DictEntry :=
  [⟨PyData.keyHash P (Str.ofString "size"), .str (Str.ofString "size") k1, .int sz t1⟩, ⟨PyData.keyHash P (Str.ofString "total"), .str (Str.ofString "total") k2, .int tot t2⟩]
section
variable {w : World} {A A₀ : Around} {s : Shared} {L : Addr} {h₀ base : Heap} {m mg mb : Str → Option Value} {loose : List Str} {mean : ExcName → Option Value} {env : Env} {outer : List Env} {Q : Value → Shared → Prop} {E : Value → Shared → Prop} {news : List (Addr × Obj)} {x dx rg : Addr} {τ : WT} {wd : Nat} {t : List UInt8}

theorem clear_spec (C : Cx w A A₀ L h₀ base env outer mean mg mb loose 15 60) (F : Fr h₀ L s.heap m) {k1 k2 t1 t2 : Tok} {sz tot : Int} (N : News h₀ L s.heap [(x, instObj 159 dx), (dx, dictOf (win2 w.params k1 k2 sz tot t1 t2) 2)])
    (ret : ∀ h' rg k3 k4 t4 tk, Fr h₀ L h' m → Kept s.heap h' [dx] → s.heap.get? rg = none → h'.get? dx = some (dictOf (winEs w.params k1 k2 k3 k4 sz tot 0 t1 t2 t4 rg) 4) → h'.get? rg = some (baO []) → Q .none { s with heap := h', toks := tk }) :
    wpC (model PySem.Challenge.rw_tg0040_01.row.prog w) A (call (.ref 99) [.ref x]) Q s := by
  obtain ⟨B, X, T, hA, hf, hke, hh, hd, hu⟩ := C
  revert X; k_fill; intro X
  refine c_call ?_
  k_dflt walk_at "enterC"
  refine c_fold ?_
  intro q0 hq0
  (try dsimp only [win2] at N')
  refine c_cons (c_AssignAttr (c_CallName ?_))
  k_steps
  refine c_callB0 (by rfl) ?_
  walk_at "cNewBA0"
  k_steps
  walk_at "cStmt"
  refine c_nil ?_
  rename News _ _ _ _ => N'
  exact hq0 _ _ (BackW.fin (mods := [dx]) (by assumption) N N' hg' (by walk_at "modsub") fun F K => ⟨_, rfl, ret _ D' _ _ _ _ F K (fresh_of hg' N' (by walk_at "mem") (by k_all)) (N'.get (by walk_at "mem")) (N'.get (by walk_at "mem"))⟩)

theorem init_spec {R : Flow → Shared → Prop} (C : Cx w A A₀ L h₀ base env outer mean mg mb loose 25 90) (F : Fr h₀ L s.heap m) {tw : Tok} (N : News h₀ L s.heap [(x, instObj 159 dx), (dx, dictOf [] 0)]) (hw : 1 ≤ wd)
    (ret : ∀ h' rg τ tk, Fr h₀ L h' m → Kept s.heap h' [dx] → s.heap.get? rg = none → h'.get? dx = some (winD w.params τ wd [] rg) → h'.get? rg = some (baO []) → R (.ret .none) { s with heap := h', toks := tk }) :
    codeC (model PySem.Challenge.rw_tg0040_01.row.prog w) A (.call (.ref 92) ⟨[.ref x, .int (wd : Int) tw], []⟩) R s := by
  obtain ⟨B, X, T, hA, hf, hke, hh, hd, hu⟩ := C
  revert X; k_fill; intro X
  k_dflt walk_at "enterC"
  refine c_fold ?_
  intro q0 hq0
  walk_at "cStmt"
  walk_at "cStmt"
  walk_at "cStmt"
  walk_at "cMeth"
  walk_at "cWith"
  (rename Fr _ _ _ _ => F'); (rename News _ _ _ _ => N')
  refine clear_spec (C'.mono (by omega) (by omega)) F' N' fun h2 rg k3 k4 t4 tk2 F2 K2 fr e1 e2 => ?_
  have fr2 := fresh_of2 (news := [(x, instObj 159 dx), (dx, dictOf [] 0)]) hg' F' N' fr (by walk_at "backs")
  refine c_nil ?_
  exact hq0 _ _ (BackW.fin (mods := [dx]) (news' := [(x, instObj 159 dx)]) F2 N (Kept.news K2 N' (by walk_at "subs") (fun p hp => by rw [List.mem_singleton.mp hp]; exact fun e => absurd (List.mem_singleton.mp e) (by k_ne))) hg' (by walk_at "modsub") fun F K => ret _ rg ⟨_, _, k3, k4, _, _, t4⟩ _ F K fr2 e1 e2)

theorem new_win (C : Cx w A A₀ L h₀ base env outer mean mg mb loose 35 120) (F : Fr h₀ L s.heap m) {tw : Tok} (hw : 1 ≤ wd)
    (ret : ∀ h' x dx rg τ tk, Fr h₀ L h' m → Kept s.heap h' [] → s.heap.get? x = none → s.heap.get? dx = none → s.heap.get? rg = none → x ≠ dx → x ≠ rg → dx ≠ rg →
      h'.get? x = some (instObj 159 dx) → h'.get? dx = some (winD w.params τ wd [] rg) → h'.get? rg = some (baO (ringW wd [])) → Q (.ref x) { s with heap := h', toks := tk }) :
    wpC (model PySem.Challenge.rw_tg0040_01.row.prog w) A (call (.ref 159) [.int (wd : Int) tw]) Q s := by
  have X := C.X
  revert X; k_fill; intro X
  refine' c_make (X.keeps F.keep) ?a ?b ?c fun x dx h' hx hdx kp lo lt => ?_
  case a => k_is
  case b => k_is
  case c => k_is
  have F' : Fr h₀ L h' m := F.keeps kp
  have n1 : s.heap.get? dx = none := by
    cases e : s.heap.get? dx with
    | none => rfl
    | some o => exact absurd (lo _ _ e) (Nat.lt_irrefl _)
  have n2 : s.heap.get? x = none := by
    cases e : s.heap.get? x with
    | none => rfl
    | some o => exact absurd (Nat.lt_trans lt (lo _ _ e)) (Nat.lt_irrefl _)
  have N' : News h₀ L h' [(x, instObj 159 dx), (dx, dictOf [] 0)] := News.fresh1 (m := m) F n2 hx (News.fresh1 (m := m) F n1 hdx News.nil)
  refine init_spec (s := { s with heap := h' }) (C.make (by omega) (by omega)) F' N' hw fun h2 rg τ tk F2 K2 fr e1 e2 => ⟨rfl, ?_⟩
  have n3 : s.heap.get? rg = none := by
    cases e : s.heap.get? rg with
    | none => rfl
    | some o => rw [show h'.get? rg = _ from kp _ _ e] at fr; cases fr
  refine ret h2 x dx rg τ tk F2 (fun b o _ e => K2 b o (fun hm => ?_) (kp b o e)) n2 n1 n3 (Nat.ne_of_gt lt) (fun e => ?_) (fun e => ?_) (K2 _ _ (fun hm => Nat.ne_of_gt lt (List.mem_singleton.mp hm)) hx) e1 e2
  · rw [List.mem_singleton.mp hm, n1] at e; cases e
  · subst e; rw [show h'.get? x = _ from hx] at fr; cases fr
  · subst e; rw [show h'.get? dx = _ from hdx] at fr; cases fr
end

/-! text W7 -/
theorem cutB_from (l : List UInt8) (n : Nat) : cutB l (some (n : Int)) none = l.drop n := by
  unfold cutB
  simp only [Option.elim, clipAt_nat]
  by_cases h : n ≤ l.length
  · rw [Nat.min_eq_left h, List.take_of_length_le (by rw [List.length_drop]; omega)]
  · rw [List.drop_eq_nil_of_le (by omega), List.drop_eq_nil_of_le (by omega)]; simp
theorem cutB_to (l : List UInt8) (n : Nat) : cutB l none (some (n : Int)) = l.take n := by
  unfold cutB
  simp only [Option.elim, clipAt_nat, List.drop_zero, Nat.sub_zero]
  by_cases h : n ≤ l.length
  · rw [Nat.min_eq_left h]
  · rw [Nat.min_eq_right (by omega), List.take_length, List.take_of_length_le (by omega)]
theorem cutB_both (l : List UInt8) (a n : Nat) : cutB l (some (a : Int)) (some (n : Int)) = (l.take n).drop a := by
  unfold cutB
  simp only [Option.elim, clipAt_nat]
  apply List.ext_getElem?
  intro i
  simp only [List.getElem?_take, List.getElem?_drop]
  by_cases h : a ≤ l.length
  · rw [Nat.min_eq_left h]
    by_cases h2 : i < min n l.length - a
    · rw [if_pos h2, if_pos (by omega)]
    · rw [if_neg h2]
      by_cases h3 : a + i < n
      · rw [if_pos h3, List.getElem?_eq_none (by omega)]
      · rw [if_neg h3]
  · rw [if_neg (by omega)]
    by_cases h3 : a + i < n
    · rw [if_pos h3, List.getElem?_eq_none (by omega)]
    · rw [if_neg h3]
section
variable {w : World} {A A₀ : Around} {s : Shared} {L : Addr} {h₀ base : Heap} {m mg mb : Str → Option Value} {loose : List Str} {mean : ExcName → Option Value} {env : Env} {outer : List Env} {Q : Value → Shared → Prop} {E : Value → Shared → Prop} {news : List (Addr × Obj)} {x dx rg : Addr} {τ : WT} {wd : Nat} {t : List UInt8}

theorem octets_win (C : Cx w A A₀ L h₀ base env outer mean mg mb loose 25 90) (F : Fr h₀ L s.heap m) (N : News h₀ L s.heap news) (hx : (x, instObj 159 dx) ∈ news) (hd : (dx, winD w.params τ wd t rg) ∈ news) (hr : (rg, baO (ringW wd t)) ∈ news)
    (hw : 1 ≤ wd ∧ wd ≤ 100000)
    (ret : ∀ h' tt tk, Fr h₀ L h' m → Kept s.heap h' [] → Q (.bytes (t.drop (t.length - wd)).toArray tt) { s with heap := h', toks := tk }) :
    wpAny (model PySem.Challenge.rw_tg0040_01.row.prog w) A (call (.ref 149) [.ref x]) Q E s := by
  replace N := News.three N hx hd hr
  clear hx hd hr
  have hlen := ringW_length hw.1 t
  have hsl := spotW_lt hw.1 t
  obtain ⟨B, X, T, hA, hf, hke, hh, hd, hu⟩ := C
  have law := octets_law hw.1 t
  revert X; k_fill; intro X
  refine wpAny_call ?_
  k_dflt walk_at "enterW"
  k_steps
  · refine BackW.fin (mods := []) (by assumption) N (by assumption) hg' (by walk_at "modsub") fun F K => ?_
    rw [if_pos (by omega)] at law
    try dsimp only
    rw [law]; exact ret _ _ _ F K
  · refine BackW.fin (mods := []) (by assumption) N (by assumption) hg' (by walk_at "modsub") fun F K => ?_
    rw [if_neg (by omega)] at law
    try dsimp only
    rw [law]; exact ret _ _ _ F K
end

/-! text W8 -/
theorem ln_W8_1 : True := by
  k_with "call ref" => (k_here; (with_reducible show wpAny _ _ (call (Value.ref 149) _) _ _ _); k_dflt ((rename Fr _ _ _ _ => F'); (rename News _ _ _ _ => N'); (refine octets_win (C'.mono (by omega) (by omega)) F' N' (by walk_at "mem") (by walk_at "mem") (by walk_at "mem") ?z ?_; (case z => omega)); intro h' tt' tk' F' K'; (replace N' := Kept.news K' N' (fun _ h => h) (fun _ _ h => nomatch h)); (try dsimp only at N')))
  trivial
section
variable {w : World} {A A₀ : Around} {s : Shared} {L : Addr} {h₀ base : Heap} {m mg mb : Str → Option Value} {loose : List Str} {mean : ExcName → Option Value} {env : Env} {outer : List Env} {Q : Value → Shared → Prop} {E : Value → Shared → Prop} {news : List (Addr × Obj)} {x dx rg : Addr} {τ : WT} {wd : Nat} {t : List UInt8}

theorem newest_win (C : Cx w A A₀ L h₀ base env outer mean mg mb loose 35 120) (F : Fr h₀ L s.heap m) (N : News h₀ L s.heap news) (hx : (x, instObj 159 dx) ∈ news) (hd : (dx, winD w.params τ wd t rg) ∈ news) (hr : (rg, baO (ringW wd t)) ∈ news)
    (hw : 1 ≤ wd ∧ wd ≤ 100000) {c : Nat} {tc : Tok} (hc : c ≤ 1000)
    (ret : ∀ h' tt tk, Fr h₀ L h' m → Kept s.heap h' [] → Q (.bytes ((t.drop (t.length - wd)).drop ((t.drop (t.length - wd)).length - c)).toArray tt) { s with heap := h', toks := tk }) :
    wpAny (model PySem.Challenge.rw_tg0040_01.row.prog w) A (call (.ref 156) [.ref x, .int (c : Int) tc]) Q E s := by
  replace N := News.three N hx hd hr
  clear hx hd hr
  have hl : (t.drop (t.length - wd)).length ≤ wd := by rw [List.length_drop]; omega
  have : True := trivial
  walk_at "start"
  refine wpAny_call ?_
  k_dflt walk_at "enterW"
  k_steps
  have e : (if (((t.drop (t.length - wd)).length : Int) - (c : Int)) > 0 then (((t.drop (t.length - wd)).length : Int) - (c : Int)) else 0) = (((t.drop (t.length - wd)).length - c : Nat) : Int) := by split <;> omega
  rw [e, cutB_from]
  exact BackW.fin (mods := []) (by assumption) N (by assumption) hg' (by walk_at "modsub") fun F K => ret _ _ _ F K
end

section
/-! text O1 -/
abbrev offEs (P : Params) (k1 k2 k3 : Tok) (a b c : Int) (t1 t2 t3 : Tok) : List DictEntry :=
  [⟨PyData.keyHash P (Str.ofString "one"), .str (Str.ofString "one") k1, .int a t1⟩, ⟨PyData.keyHash P (Str.ofString "two"), .str (Str.ofString "two") k2, .int b t2⟩, ⟨PyData.keyHash P (Str.ofString "three"), .str (Str.ofString "three") k3, .int c t3⟩]
/-- what told_by tells: the place and the distance -/
def toldP (v lit : Int) : Int := if v > 3 then 3 else if lit > 0 then v - 1 else v
def toldD (a b c v lit : Int) : Int := if v > 3 then v - 3 else if toldP v lit = 3 then a - 1 else [a, b, c].getD (toldP v lit).toNat 0
abbrev tupO2 (a b : Int) (t u : Tok) : Obj := { cls := .type "tuple", data := .seq #[.int a t, .int b u] }
section
variable {w : World} {A A₀ : Around} {s : Shared} {L : Addr} {h₀ base : Heap} {m mg mb : Str → Option Value} {loose : List Str} {mean : ExcName → Option Value} {env : Env} {outer : List Env} {Q : Value → Shared → Prop} {E : Value → Shared → Prop} {x dx : Addr}
theorem told_by_spec (C : Cx w A A₀ L h₀ base env outer mean mg mb loose 25 90) (F : Fr h₀ L s.heap m) {k1 k2 k3 t1 t2 t3 tv tl : Tok} {a b c v lit : Int}
    (N : News h₀ L s.heap [(x, instObj 356 dx), (dx, dictOf (offEs w.params k1 k2 k3 a b c t1 t2 t3) 3)]) (hv : 1 ≤ v ∧ v ≤ 1000000) (hl : 0 ≤ lit)
    (ret : ∀ h' D d p td tp tk, d = toldD a b c v lit → p = toldP v lit → Fr h₀ L h' m → Kept s.heap h' [] → s.heap.get? D = none → h'.get? D = some (tupO2 d p td tp) → Q (.ref D) { s with heap := h', toks := tk }) :
    wpAny (model PySem.Challenge.rw_tg0040_01.row.prog w) A (call (.ref 332) [.ref x, .int v tv, .int lit tl]) Q E s := by
  walk_at "start"
  refine wpAny_call ?_
  k_dflt walk_at "enterW"
  (try dsimp only [offEs] at N')
  k_steps
  all_goals (rename News _ _ _ _ => N')
  all_goals refine BackW.fin (mods := []) (by assumption) N N' hg' (by walk_at "modsub") fun F K => ret _ _ _ _ _ _ _ ?_ ?_ F K (fresh_of hg' N' (List.Mem.head _) (by k_all)) (N'.get (List.Mem.head _))
  all_goals (simp only [toldD, toldP, *, if_true, if_false]; try simp_all)
  all_goals (try omega)
end

/-! text O2 -/
def moveO (a b c d p : Int) : Int × Int × Int := if p = 1 then (d, a, c) else if p > 1 then (d, a, b) else (a, b, c)
structure OT where
  (k1 k2 k3 t1 t2 t3 : Tok)
abbrev offD (P : Params) (τ : OT) (a b c : Int) : Obj := dictOf (offEs P τ.k1 τ.k2 τ.k3 a b c τ.t1 τ.t2 τ.t3) 3
theorem ln_O2_1 : True := by
  k_with "call ref" => (k_here; (with_reducible show wpAny _ _ (call (Value.ref 332) _) _ _ _); k_dflt ((rename Fr _ _ _ _ => F'); (rename News _ _ _ _ => N'); (refine told_by_spec (C'.mono (by omega) (by omega)) F' (News.two N' (by walk_at "mem") (by walk_at "mem")) ?z ?z2 ?_; (case z => omega); (case z2 => omega)); intro h' D' d' p' td' tp' tk' ed' ep' F' K' fr' e'; (have l1 := new_ne N' fr'); (replace N' := News.fresh1 (by assumption) fr' e' (Kept.news K' N' (fun _ h => h) (fun _ _ h => nomatch h))); (try dsimp only at N' ⊢)))
  trivial
theorem News.two {h h₀ : Heap} {L : Addr} {news : List (Addr × Obj)} {a b : Addr × Obj} (N : News h₀ L h news) (ha : a ∈ news) (hb : b ∈ news) : News h₀ L h [a, b] := fun p hp => by
  rcases List.mem_cons.mp hp with rfl | hp
  · exact N _ ha
  rcases List.mem_cons.mp hp with rfl | hp
  · exact N _ hb
  · cases hp
section
variable {w : World} {A A₀ : Around} {s : Shared} {L : Addr} {h₀ base : Heap} {m mg mb : Str → Option Value} {loose : List Str} {mean : ExcName → Option Value} {env : Env} {outer : List Env} {Q : Value → Shared → Prop} {E : Value → Shared → Prop} {x dx : Addr} {news : List (Addr × Obj)}
theorem move_spec (C : Cx w A A₀ L h₀ base env outer mean mg mb loose 25 90) (F : Fr h₀ L s.heap m) {τ : OT} {a b c d p : Int} {td tp : Tok} (N : News h₀ L s.heap [(x, instObj 356 dx), (dx, offD w.params τ a b c)])
    (ret : ∀ h' τ' tk, Fr h₀ L h' m → Kept s.heap h' [dx] → h'.get? dx = some (offD w.params τ' (moveO a b c d p).1 (moveO a b c d p).2.1 (moveO a b c d p).2.2) → Q .none { s with heap := h', toks := tk }) :
    wpAny (model PySem.Challenge.rw_tg0040_01.row.prog w) A (call (.ref 339) [.ref x, .int d td, .int p tp]) Q E s := by
  walk_at "start"
  refine wpAny_call ?_
  k_dflt walk_at "enterW"
  (try dsimp only [offEs] at N')
  k_steps
  all_goals (rename News _ _ _ _ => N')
  all_goals first
    | exact BackW.fin (mods := [dx]) (by assumption) N N' hg' (by walk_at "modsub") fun F K => ret _ ⟨τ.k1, τ.k2, τ.k3, td, τ.t1, τ.t3⟩ _ F K (by rw [moveO, if_pos (by omega)]; exact N'.get (by walk_at "mem"))
    | exact BackW.fin (mods := [dx]) (by assumption) N N' hg' (by walk_at "modsub") fun F K => ret _ ⟨τ.k1, τ.k2, τ.k3, td, τ.t1, τ.t2⟩ _ F K (by rw [moveO, if_neg (by omega), if_pos (by omega)]; exact N'.get (by walk_at "mem"))
    | exact BackW.fin (mods := [dx]) (by assumption) N N' hg' (by walk_at "modsub") fun F K => ret _ τ _ F K (by rw [moveO, if_neg (by omega), if_neg (by omega)]; exact N'.get (by walk_at "mem"))
    | fail "move"
theorem ln_O2_2 : True := by
  k_with "call ref" => (k_here; (with_reducible show wpAny _ _ (call (Value.ref 339) _) _ _ _); k_dflt ((rename Fr _ _ _ _ => F'); (rename News _ _ _ _ => N'); (refine move_spec (C'.mono (by omega) (by omega)) F' (News.two N' (by walk_at "mem") (by walk_at "mem")) ?_); intro h' τ' tk' F' K' e'; (replace N' := News.put1 N' K' (by k_updF) e'); (try dsimp only at N' ⊢)))
  trivial

theorem distance_spec (C : Cx w A A₀ L h₀ base env outer mean mg mb loose 35 120) (F : Fr h₀ L s.heap m) {τ : OT} {a b c v lit : Int} {tv tl : Tok} (N : News h₀ L s.heap [(x, instObj 356 dx), (dx, offD w.params τ a b c)])
    (hv : 1 ≤ v ∧ v ≤ 1000000) (hl : 0 ≤ lit) (hd0 : toldD a b c v lit ≠ 0)
    (ret : ∀ h' τ' d r tk, d = toldD a b c v lit → r = moveO a b c d (toldP v lit) → Fr h₀ L h' m → Kept s.heap h' [dx] → h'.get? dx = some (offD w.params τ' r.1 r.2.1 r.2.2) → ∀ td, Q (.int d td) { s with heap := h', toks := tk }) :
    wpAny (model PySem.Challenge.rw_tg0040_01.row.prog w) A (call (.ref 346) [.ref x, .int v tv, .int lit tl]) Q E s := by
  walk_at "start"
  refine wpAny_call ?_
  k_dflt walk_at "enterW"
  k_steps
  all_goals (try (exfalso; omega))
  exact BackW.fin (mods := [dx]) (by assumption) N N' hg' (by walk_at "modsub") fun F K => ret _ τ' _ _ _ ed' rfl F K (by rw [← ep']; exact N'.get (by walk_at "mem")) _
end

/-! text Q4 -/
/-- the value that tells the distance -/
def valueO (a b c d lit : Int) : Int := if toldD a b c 1 lit = d then 1 else if toldD a b c 2 lit = d then 2 else if toldD a b c 3 lit = d then 3 else d + 3
theorem toldD_big {a b c v lit : Int} (h : v > 3) : toldD a b c v lit = v - 3 := by unfold toldD; rw [if_pos h]
theorem valueO_told {a b c d lit : Int} (hd : 1 ≤ d) : toldD a b c (valueO a b c d lit) lit = d := by
  unfold valueO
  split
  · assumption
  split
  · assumption
  split
  · assumption
  · unfold toldD; rw [if_pos (by omega)]; omega
theorem valueO_range {a b c d lit : Int} (hd : 1 ≤ d) : 1 ≤ valueO a b c d lit ∧ valueO a b c d lit ≤ d + 3 := by
  unfold valueO
  split
  · omega
  split
  · omega
  split
  · omega
  · omega
theorem ln_Q4_1 : True := by
  k_with "call ref" => (k_here; (with_reducible show wpAny _ _ (call (Value.ref 346) _) _ _ _); k_dflt ((rename Fr _ _ _ _ => F'); (rename News _ _ _ _ => N'); (replace F' : Fr g' L' _ _ := F'); (refine distance_spec (C'.mono (by omega) (by omega)) F' (News.two N' (by walk_at "mem") (by walk_at "mem")) (by omega) (by omega) (by first | omega | (rw [toldD_big (by omega)]; omega)) ?_); intro h' τ' d' r' tk' ed' er' F' K' e' td'; (replace N' := News.put1 N' K' (by k_updF) e'); (try dsimp only at N' ⊢)))
  trivial
section
variable {w : World} {A A₀ : Around} {s : Shared} {L : Addr} {h₀ base : Heap} {m mg mb : Str → Option Value} {loose : List Str} {mean : ExcName → Option Value} {env : Env} {outer : List Env} {Q : Value → Shared → Prop} {E : Value → Shared → Prop} {x dx : Addr} {news : List (Addr × Obj)}
theorem value_spec (C : Cx w A A₀ L h₀ base env outer mean mg mb loose 45 150) (F : Fr h₀ L s.heap m) {τ : OT} {a b c d lit : Int} {td tl : Tok} (N : News h₀ L s.heap [(x, instObj 356 dx), (dx, offD w.params τ a b c)])
    (hd : 1 ≤ d ∧ d ≤ 100000) (hl : 0 ≤ lit)
    (ret : ∀ h' τ' r tk, r = moveO a b c d (toldP (valueO a b c d lit) lit) → Fr h₀ L h' m → Kept s.heap h' [dx] → h'.get? dx = some (offD w.params τ' r.1 r.2.1 r.2.2) → ∀ tv, Q (.int (valueO a b c d lit) tv) { s with heap := h', toks := tk }) :
    wpAny (model PySem.Challenge.rw_tg0040_01.row.prog w) A (call (.ref 353) [.ref x, .int d td, .int lit tl]) Q E s := by
  have ret' : ∀ h' τ' v dd r tk, v = valueO a b c d lit → dd = toldD a b c v lit → r = moveO a b c dd (toldP v lit) → Fr h₀ L h' m → Kept s.heap h' [dx] → h'.get? dx = some (offD w.params τ' r.1 r.2.1 r.2.2) → ∀ tv, Q (.int v tv) { s with heap := h', toks := tk } := by
    intro h' τ' v dd r tk hv hdd hr F K e tv
    subst hv
    rw [valueO_told hd.1] at hdd
    subst hdd
    exact ret h' τ' r tk hr F K e tv
  clear ret
  walk_at "start"
  refine wpAny_call ?_
  k_dflt walk_at "enterW"
  k_steps
  all_goals (rename News _ _ _ _ => N')
  all_goals exact BackW.fin (mods := [dx]) (by assumption) N N' hg' (by walk_at "modsub") fun F K => ret' _ τ' _ d' r' _ (by unfold valueO; (repeat' split) <;> omega) ed' er' F K (N'.get (by walk_at "mem")) _
end
section
variable {w : World} {A A₀ : Around} {s : Shared} {L : Addr} {h₀ base : Heap} {m mg mb : Str → Option Value} {loose : List Str} {mean : ExcName → Option Value} {env : Env} {outer : List Env} {Q : Value → Shared → Prop} {E : Value → Shared → Prop} {x dx : Addr} {news : List (Addr × Obj)}
theorem row_spec (C : Cx w A A₀ L h₀ base env outer mean mg mb loose 25 90) (F : Fr h₀ L s.heap m) {τ : OT} {a b c : Int} (N : News h₀ L s.heap [(x, instObj 356 dx), (dx, offD w.params τ a b c)])
    (ret : ∀ h' D tk, Fr h₀ L h' m → Kept s.heap h' [] → s.heap.get? D = none → h'.get? D = some { cls := .type "tuple", data := .seq #[.int a τ.t1, .int b τ.t2, .int c τ.t3] } → Q (.ref D) { s with heap := h', toks := tk }) :
    wpAny (model PySem.Challenge.rw_tg0040_01.row.prog w) A (call (.ref 318) [.ref x]) Q E s := by
  walk_at "start"
  refine wpAny_call ?_
  k_dflt walk_at "enterW"
  k_steps
  rename News _ _ _ _ => N'
  exact BackW.fin (mods := []) (by assumption) N N' hg' (by walk_at "modsub") fun F K => ret _ _ _ F K (fresh_of hg' N' (List.Mem.head _) (by k_all)) (N'.get (List.Mem.head _))
end

end
theorem ln_again_1 : True := by
  k_with_none
  k_with "mem" => first | exact List.Mem.head _ | exact mem1 | exact mem2 | exact mem3 | exact mem4 | exact mem5 | exact mem6 | exact mem7 | exact mem8 | exact mem9 | exact mem10 | exact mem11 | exact mem12 | exact mem13 | exact mem14 | exact mem15 | exact mem16 | fail "mem: none"
  k_with "my k_room" => ((first | simp only [A9, depth_under_make, depth_under_kw, depth_in1, depth_deeper, depth_caller] | (try simp only [depth_under_make, depth_under_kw, depth_in1, depth_deeper, depth_caller])); first | omega | ((try dsimp only at hd ⊢); omega))
  k_with "enterW" => (refine' code_defW ?k1 ?k2 ?k3 ?k4 ?k5 ?kA ?kF ?kK ?k6 ?k7 ?k8 ?k9 ?kB ?_ ?c2 ?c3 ?c4 ?c5; (case kA => first | assumption | exact rfl); (case kF => first | assumption | exact rfl); (case kK => first | assumption | exact rfl); (case k1 => k_asm); (case k2 => k_asm); (case k3 => k_asm); (case k4 => k_asm); (case k5 => k_asm); (case k6 => k_is); (case k7 => k_is); (case k8 => k_room); (case k9 => first | exact BindsTo.of_eq rfl | exact binds_K (by k_in) rfl (by k_is) rfl rfl rfl | fail "enter: the arguments"); (case c5 => decide); (case kB => exact locs rfl); (case c2 => exact rfl); (case c3 => exact rfl); (case c4 => exact rfl); k_whole; intro g' L' h' F' N' B' X' T' hg'; (refine Cx.useL B' X' T' hA hh hd hu rfl rfl ?_; intro e9 A9 C'); (try dsimp only [winEs] at N'); (try dsimp only); (try k_fold))
  k_with "call builtin:len" => (k_here; (with_reducible show wpAny _ _ (call (Value.builtin "len") [Value.ref _]) _ _ _); k_dflt ((refine len_baN (by k_asm) (by walk_at "mem") ?z ?_; (case z => omega)); intro _ _; (try dsimp only)))
  k_with "call builtin:len" => (k_here; (with_reducible show wpAny _ _ (call (Value.builtin "len") [Value.bytes (List.toArray _) _]) _ _ _); k_dflt ((refine lenB ?z ?_; (case z => ((try simp only [List.length_append, List.length_drop, List.length_take]); omega))); intro _ _; (try dsimp only)))
  k_with "subscriptTail" => (k_here; (with_reducible show wpAny _ _ (subscriptTail _ _ (Value.ref _) (Value.int _ _)) _ _ _); k_dflt ((refine item_baN (by k_asm) (by walk_at "mem") ?z ?h0 ?h1 ?_; (case z => omega); (case h0 => omega); (case h1 => omega)); intro _ _; (try dsimp only)))
  k_with "enterC" => (refine' code_defC ?k1 ?k2 ?k3 ?k4 ?k5 ?kA ?kF ?kK ?k6 ?k7 ?k8 ?k9 ?kB ?_ ?c2 ?c3 ?c4 ?c5; (case kA => first | assumption | exact rfl); (case kF => first | assumption | exact rfl); (case kK => first | assumption | exact rfl); (case k1 => k_asm); (case k2 => k_asm); (case k3 => k_asm); (case k4 => k_asm); (case k5 => k_asm); (case k6 => k_is); (case k7 => k_is); (case k8 => k_room); (case k9 => first | exact BindsTo.of_eq rfl | exact binds_K (by k_in) rfl (by k_is) rfl rfl rfl | fail "enter: the arguments"); (case c5 => decide); (case kB => exact locs rfl); (case c2 => exact rfl); (case c3 => exact rfl); (case c4 => exact rfl); k_whole; intro g' L' h' F' N' B' X' T' hg'; (refine Cx.useCL B' X' T' hA hh hd hu rfl rfl ?_; intro e9 A9 C'); (try dsimp only [winEs] at N'); (try dsimp only); (try k_fold))
  k_with "getMethod ref" => (k_here; (with_reducible show wpAny _ _ (getMethod (Value.ref _) (PySem.Str.ofString "append") _) _ _ _); k_dflt ((refine method_baN BF.slot_bytearray_append BF.type_bytearray_append (by k_asm) (by walk_at "mem") ?_)))
  k_with "cStmt" => ((try dsimp only); (first | with_reducible refine c_consA ?_ | with_reducible refine c_nil ?_ | refine c_consA ?_ | refine c_nil ?_); (try dsimp only); (try k_fold); k_steps)
  k_with "cMeth" => ((try dsimp only); (refine c_cons (c_Expr (c_CallAttr ?_))); (try dsimp only); k_steps)
  k_with "cWith" => ((try dsimp only); (first | (refine' c_callK ?X ?hk ?_; (case X => k_asm); (case hk => k_is)) | (refine' c_callK0 ?X ?hk ?_; (case X => exact Frag.In.keeps (by k_asm) (Fr.keep (by k_asm))); (case hk => k_is)) | (refine c_callB (by rfl) ?_) | (refine c_callB0 (by rfl) ?_)); (try dsimp only); k_steps; (try simp only [List.cons_append, List.nil_append]))
  k_with "cApp" => ((try dsimp only); (rename Fr _ _ _ _ => F'); (rename News _ _ _ _ => N'); (refine append_baN F' N' (by k_updF) ?z ?hx ?_; (case z => omega); (case hx => omega)); intro h' F' N'; (try dsimp only at N' ⊢))
  k_with "my k_ne" => ((refine ne_of_objs (by assumption) (by walk_at "mem") (by walk_at "mem") ?_); first | (exact fun h => absurd (Value.type.inj h) (by decide)) | (exact fun h => Value.noConfusion h) | fail "k_ne: objs")
  k_with "backs" => first | exact List.forall_mem_nil _ | (refine fmc ⟨_, by walk_at "mem"⟩ ?_; walk_at "backs")
  k_with "subs" => first | exact List.forall_mem_nil _ | (refine fmc (by walk_at "mem") ?_; walk_at "subs")
  k_with "modsub" => first | exact List.forall_mem_nil _ | (refine fmc (by first | exact .inl (by walk_at "mem") | exact .inr (by walk_at "mem")) ?_; walk_at "modsub")
  k_with "setItem ref int" => (k_here; (with_reducible show wpAny _ _ (setItem (Value.ref _) (Value.int _ _) (Value.int _ _)) _ _ _); k_dflt ((rename Fr _ _ _ _ => F'); (rename News _ _ _ _ => N'); (refine set_baN F' N' (by k_updF) ?z ?h0 ?h1 ?hx ?_; (case z => omega); (case h0 => omega); (case h1 => omega); (case hx => omega)); intro h' F' N'; (try dsimp only at N' ⊢)))
  k_with "my k_ne" => first | exact offL (by assumption) (by walk_at "mem") | exact offR (by assumption) (by walk_at "mem") | fail "k_ne: off"
  k_with "offs" => first | exact List.forall_mem_nil _ | (refine fmc (by k_ne) ?_; walk_at "offs")
  k_with "mpeq" => (funext y; (repeat' split) <;> first | rfl | contradiction | (subst_vars; with_unfolding_all rfl) | (subst_vars; contradiction) | (simp_all; done))
  k_with "call type:bytes" => (k_here; (with_reducible show wpAny _ _ (call (Value.type "bytes") [Value.ref _]) _ _ _); k_dflt ((refine bytes_baN (by k_asm) (by walk_at "mem") ?z ?_; (case z => ((try simp only [List.length_append, List.length_drop, List.length_take]); omega))); intro _ _; (try dsimp only)))
  k_with "subscriptTail" => (k_here; (with_reducible show wpAny _ _ (subscriptTail _ (Expr.Slice _ _ none _) (Value.ref _) (Value.ref _)) _ _ _); k_dflt ((rename Fr _ _ _ _ => F'); (rename News _ _ _ _ => N'); (refine slice_baN (s := ⟨_, _, _, _, _⟩) F' N' (by walk_at "mem") ?z (by constructor) (by constructor) ?_; (case z => ((try simp only [List.length_append, List.length_drop, List.length_take]); omega))); intro D' h' F' N' l1; (try k_lt l1); (try dsimp only at N' ⊢); (try simp only [cutB_from, cutB_to] at N')))
  k_with "binaryOp Add" => (k_here; (with_reducible show wpAny _ _ (binaryOp Operator.Add (Value.ref _) (Value.ref _)) _ _ _); k_dflt ((rename Fr _ _ _ _ => F'); (rename News _ _ _ _ => N'); (refine add_baN F' N' (by walk_at "mem") (by walk_at "mem") ?z ?_; (case z => ((try simp only [List.length_append, List.length_drop, List.length_take]); omega))); intro D' h' F' N' l1; (try k_lt l1); (try dsimp only at N' ⊢)))
  k_with "subscriptTail" => (k_here; (with_reducible show wpAny _ _ (subscriptTail _ (Expr.Slice _ _ none _) (Value.bytes (List.toArray _) _) (Value.ref _)) _ _ _); k_dflt ((rename Fr _ _ _ _ => F'); (rename News _ _ _ _ => N'); (refine sliceB (s := ⟨_, _, _, _, _⟩) F' N' ?z (by constructor) (by constructor) ?_; (case z => ((try simp only [List.length_append, List.length_drop, List.length_take]); omega))); intro h' tt' tk' F' N'; (try dsimp only)))
  k_with "subscriptTail" => (k_here; (with_reducible show wpAny _ _ (subscriptTail _ _ (Value.bytes (List.toArray _) _) (Value.int _ _)) _ _ _); k_dflt ((first | (refine itemB ?z ?h0 ?h1 ?_; (case z => ((try simp only [List.length_append, List.length_drop, List.length_take]); omega)); (case h0 => omega); (case h1 => omega)) | (refine itemBneg ?z ?h0 ?h1 ?_; (case z => ((try simp only [List.length_append, List.length_drop, List.length_take]); omega)); (case h0 => ((try simp only [List.length_append, List.length_drop, List.length_take]); omega)); (case h1 => omega))); intro _ _; (try dsimp only)))
  k_with "start" => (obtain ⟨B, X, T, hA, hf, hke, hh, hd, hu⟩ := C; obtain ⟨hdl, dp, fr, gd, un⟩ := A; (dsimp only at hA hh); subst hA; subst hh; (have hA : Around.frames ⟨none, dp, some (env :: outer), gd, un⟩ = some (env :: outer) := rfl); (have hh : Around.handled ⟨none, dp, some (env :: outer), gd, un⟩ = none := rfl); revert X; k_fill; intro X)
  k_with "upd" => first | (apply Upd.cons; walk_at "upd") | exact Upd.nil
  k_with "alleq" => first | exact AllEq.nil | (refine AllEq.cons (by with_unfolding_all rfl) ?_; walk_at "alleq")
  k_with "mpU" => (refine' mapEq ?U1 ?U2 ?e1 ?e2; (case U1 => walk_at "upd"); (case U2 => walk_at "upd"); (case e1 => walk_at "alleq"); (case e2 => walk_at "alleq"))
  k_with "nm" => ((try (refine letC ?_; intro s9)); (try ((rename Fr _ _ _ _ => F'); refine letMap F' ?_; clear F'; intro m9 F')))
  k_with "nms" => (try (refine letC ?_; intro s9))
  k_with "execs cons" => (k_here; (with_reducible refine wpAny_execs_cons ?_); (try dsimp only); (refine letA ?_; intro s9); (try ((rename Fr _ _ _ _ => F'); refine letMap F' ?_; clear F'; intro m9 F')))
  k_with "my k_all" => first | exact List.forall_mem_nil _ | (refine fmc (by k_ne) ?_; k_all)
  k_with "my k_allIn" => first | exact List.forall_mem_nil _ | (refine fmc (by k_memK) ?_; k_allIn)
  k_with "my lcg_sub" => first | exact List.forall_mem_nil _ | (refine fmc (by k_mem) (by lcg_sub))
  k_with "my k_in" => ((rename Fr _ _ _ _ => F9); exact Frag.In.keeps X' (Fr.keep F9))
  k_with "my omega" => first | with_reducible exact Nat.le_of_ble_eq_true rfl | (law_clear; lia)
  k_with "getAttr ref" => (k_here; (with_reducible show wpAny _ _ (getAttr (Value.ref _) (PySem.Str.ofString "have") _) _ _ _); k_dflt ((rename Fr _ _ _ _ => F'); (rename News _ _ _ _ => N'); (refine have_get (C'.mono (by omega) (by omega)) F' (News.three N' (by walk_at "mem") (by walk_at "mem") (by walk_at "mem")) ?z ?_; (case z => omega)); intro h' t' tk' F' K'; (replace N' := Kept.news K' N' (fun _ h => h) (fun _ _ h => nomatch h)); (try dsimp only at N')))
  k_with "call ref" => (k_here; (with_reducible show wpAny _ _ (call (Value.ref 128) _) _ _ _); k_dflt ((rename Fr _ _ _ _ => F'); (rename News _ _ _ _ => N'); (refine need_ok (C'.mono (by omega) (by omega)) F' (News.three N' (by walk_at "mem") (by walk_at "mem") (by walk_at "mem")) ?z ?z2 ?_; (case z => omega); (case z2 => omega)); intro h' tk' F' K'; (replace N' := Kept.news K' N' (fun _ h => h) (fun _ _ h => nomatch h)); (try dsimp only at N')))
  k_with "cPut" => ((try dsimp only); (rename Fr _ _ _ _ => F'); (rename News _ _ _ _ => N'); (refine put_win (C'.mono (by omega) (by omega)) F' N' (by walk_at "mem") (by walk_at "mem") (by walk_at "mem") ?hw ?ho ?_; (case hw => omega); (case ho => omega)); intro h' τ' tk' F' K' e1 e2; (replace N' := News.put2 N' K' (by k_updF) e1 (by k_updF) e2); (try dsimp only at N' ⊢))
  k_with "call ref" => (k_here; (with_reducible show wpAny _ _ (call (Value.ref 135) _) _ _ _); k_dflt ((rename Fr _ _ _ _ => F'); (rename News _ _ _ _ => N'); (refine at_win (C'.mono (by omega) (by omega)) F' N' (by walk_at "mem") (by walk_at "mem") (by walk_at "mem") ?z ?z2 ?_; (case z => omega); (case z2 => omega)); intro h' tt' tk' F' K'; (replace N' := Kept.news K' N' (fun _ h => h) (fun _ _ h => nomatch h)); (try dsimp only at N')))
  k_with "cNewBA0" => ((try dsimp only); (rename Fr _ _ _ _ => F'); (rename News _ _ _ _ => N'); (refine new_baN (v := none) F' N' (fun _ h => nomatch h) ?_); intro D' h' F' N' l1; (try k_lt l1); (try dsimp only [baL] at N' ⊢))
  k_with "call ref" => (k_here; (with_reducible show wpAny _ _ (call (Value.ref 149) _) _ _ _); k_dflt ((rename Fr _ _ _ _ => F'); (rename News _ _ _ _ => N'); (refine octets_win (C'.mono (by omega) (by omega)) F' N' (by walk_at "mem") (by walk_at "mem") (by walk_at "mem") ?z ?_; (case z => omega)); intro h' tt' tk' F' K'; (replace N' := Kept.news K' N' (fun _ h => h) (fun _ _ h => nomatch h)); (try dsimp only at N')))
  trivial
/-! text X0 -/
section
variable {P : Params} {h : Heap}
theorem cls52 (X : (hd.heap_1 P).In h) : ∃ nm q N bs hdct sn sub ab col dd k0 k1 k2 k3 k5, h.get? 52 = some (excClassObj nm q 52 N bs [.ref 39, .type "ValueError", .type "Exception", .type "BaseException", .type "object"] hdct sn sub ab col dd k0 k1 k2 k3 k5 "ValueError.__new__") := by
  have dummy : PySem.Challenge.rw_tg0040_01 = PySem.Challenge.rw_tg0040_01 := rfl
  revert X dummy; k_fill; intro X _
  have h2 := X 52 _ (by k_is)
  refine ⟨_, _, _, _, _, _, _, _, _, _, _, _, _, _, _, h2⟩
end

/-! text X1 -/
abbrev excO (C t : Addr) (d : Option Addr) : Obj := { cls := .ref C, dict := d, data := .fields #[.ref t, .none, .none, .none, .bool false, .none] }
abbrev tupO (vs : List Value) : Obj := { cls := .type "tuple", data := .seq vs.toArray }
abbrev bm52 : List Value := [.ref 39, .type "ValueError", .type "Exception", .type "BaseException", .type "object"]
section
variable {M : Model} {A : Around} {E : Value → Shared → Prop} {s : Shared} {env : Env}
/-- «raise NAME(..)» of the own class 52, its own __init__ and all -/
theorem raise52 {P : Params} {x : Str} {np cpos pos : Pos} {args : List PySem.Expr} {Q : Flow → Shared → Prop} (hh : A.handled = none)
    (h : wpAny M A (eval (.Call (.Name x np) args [] cpos) env) (fun v s₁ => ∃ e t d, v = .ref e ∧ (hd.heap_1 P).In s₁.heap ∧ s₁.heap.get? e = some (excO 52 t d) ∧ E (.ref e) s₁) E s) :
    wpAny M A (exec (.Raise (some (.Call (.Name x np) args [] cpos)) none pos) env) Q E s := by
  rw [arm_exec_Raise]
  refine wpAny_bind (wpAny_standAt ?_)
  unfold raiseStmt
  refine wpAny_bind (wpAny_bind (wpAny_mono h (fun v s₁ h₁ => wpAny_bind (wpAny_standAt (wpAny_pure ?_))) fun _ _ x => x))
  obtain ⟨e, t, d, rfl, X, he, hE⟩ := h₁
  obtain ⟨nm, q, N, bs, hdct, sn, sub, ab, col, dd, k0, k1, k2, k3, k5, hC⟩ := cls52 X
  have hcB : (Value.ref 52 :: bm52).contains (.type "BaseException") = true := by decide
  obtain ⟨hp, g, dr, tk, os⟩ := s₁
  try dsimp only at he hC
  repeat (first | with_reducible refine wpAny_loadPart_at he ?_ | with_reducible refine wpAny_loadPart_at hC ?_ | (with_reducible refine wpAny_isSubtype_exc hC ?_; rw [hcB]) | wp_step)
  exact wpAny_raiseNew_none hh hE
end
section
variable {prog : Program} {w : World} {A : Around} {E : Value → Shared → Prop} {s : Shared}
theorem x_make52 {v : Value} {Q : Value → Shared → Prop} (X : (hd.heap_1 w.params).In s.heap) 
    (h : ∀ h' e t, (∀ b o, s.heap.get? b = some o → h'.get? b = some o) → s.heap.get? e = none → s.heap.get? t = none → e ≠ t → h'.get? e = some (excO 52 t none) → h'.get? t = some (tupO [v]) →
      codeAny (model PySem.Challenge.rw_tg0040_01.row.prog w) (A.under (.builtin "type.__call__" ⟨.ref 52 :: [v], []⟩)) (.call (.ref 36) ⟨[.ref e, v], []⟩) (fun r s' => r = .ok (.ret .none) ∧ Q (.ref e) s') { s with heap := h' }) :
    wpAny (model PySem.Challenge.rw_tg0040_01.row.prog w) A (call (.ref 52) [v]) Q E s := by
  obtain ⟨nm, q, N, bs, hdct, sn, sub, ab, col, dd, k0, k1, k2, k3, k5, hC⟩ := cls52 X
  revert X; k_fill; intro X
  have FB := PySem.F.excBase_ValueError
  have hi := id (α := findIn (hd.heap_1 w.params) (.ref 52) "__init__" = some (some (.ref 36))) (by k_is)
  have hf := id (α := typeIn (hd.heap_1 w.params) (.ref 36) = some (.type "function")) (by k_is)
  obtain ⟨hp, g, d, tk, os⟩ := s
  try dsimp only at hC X h
  have f1 := tc_lookup
  have f2 := tc_bind (.ref 52)
  have hT : (⟨hp, g, d, tk, os⟩ : Shared).TypeIs (.ref 52) "type" := ⟨_, hC, rfl⟩
  refine wpAny_call (codeAny_of_tree ?_)
  show wpAny _ _ (callAny (.ref 52) _) _ _ _
  repeat (any_goals (first | assumption | with_reducible refine wpAny_loadPart_at hC ?_ | wp_step))
  refine ⟨rfl, ?_⟩
  refine codeAny_call_builtin_at (Code.quiet_builtin _ (by decide +kernel)) entry_typeCall (wpAny_check_type_call_sub hC ?_)
  have hcont : (Value.ref 52 :: bm52).contains (.type "ValueError") = true := by decide
  have hcA : (Value.ref 52 :: bm52).contains (.type "AttributeError") = false := by decide
  have hcN : (Value.ref 52 :: bm52).contains (.type "NameError") = false := by decide
  have hcC : (Value.ref 52 :: bm52).contains (.ref 52) = true := by decide
  have hstar := FB.noStar
  have hends := FB.ends
  repeat (first | with_reducible refine wpAny_loadPart_at hC ?_ | with_reducible refine wpAny_madeBy_exc hC ?_ | wp_step)
  refine codeAny_call_builtin_code (Code.quiet_builtin _ FB.quiet) ?_
  · simp only [checkBuiltinCall, FB.newKind, FB.newSplit, FB.newRow]
    repeat (first | with_reducible refine wpAny_loadPart_at hC ?_ | (with_reducible refine wpAny_isSubtype_exc hC ?_; rw [hcont]) | with_reducible refine wpAny_staticBase_exc hC ?_ | with_reducible refine wpAny_madeBy_exc hC ?_ | simp only [bne_self_eq_false, Bool.false_eq_true, if_false] | wp_step)
    refine PySem.codeAny_builtinAt FB.entry ?_
    unfold Builtin.«BaseException.__new__»
    refine PySem.wpAt_bind ?_
    show PySem.wpAt _ _ _ (stack >>= _) _ _ _
    refine PySem.wpAt_bind (PySem.wpAt_stack fun p below => PySem.wpAt_of_wpAny ?_)
    wp_walk
    refine PySem.wpAt_of_wpAny ?_
    rw [FB.owner]
    repeat (first | with_reducible refine wpAny_madeHere_exc FB.canon hC ?_ | with_reducible refine wpAny_loadPart_at hC ?_ | (with_reducible refine wpAny_isSubtype_exc hC ?_; first | rw [hcont] | rw [hcA] | rw [hcN]) | wp_step)
    have kp : ∀ b o, hp.get? b = some o → ((hp.push (tupO [v])).push (excO 52 hp.objs.size none)).get? b = some o := fun b o e => Heap.get?_push_of_some _ (Heap.get?_push_of_some _ e)
    have hx : ((hp.push (tupO [v])).push (excO 52 hp.objs.size none)).get? (hp.objs.size + 1) = some (excO 52 hp.objs.size none) := by heap_get
    have ht : ((hp.push (tupO [v])).push (excO 52 hp.objs.size none)).get? hp.objs.size = some (tupO [v]) := Heap.get?_push_of_some _ (Heap.get?_push_size _ rfl)
    have hs1 : (hp.push (tupO [v])).objs.size = hp.objs.size + 1 := Heap.size_push _ _
    show wpAny _ _ (isSubtype (.ref 52) (.ref 52)) _ _ ⟨(hp.push (tupO [v])).push (excO 52 hp.objs.size none), g, d, tk, os⟩
    refine wpAny_isSubtype_exc (kp _ _ hC) ?_
    rw [hcC]
    refine wpAny_ite (KBy.ite_no Bool.false_ne_true ?_)
    show wpAny _ _ (holding _ (callSpecial? (.ref (hp.push (tupO [v])).objs.size) _ _) >>= _) _ _ _
    rw [hs1]
    have X1 := X.keeps kp
    have t1 : Looks (model PySem.Challenge.rw_tg0040_01.row.prog w) ((hp.push (tupO [v])).push (excO 52 hp.objs.size none)) (typeOf (.ref (hp.objs.size + 1))) (.ref 52) := (Looks.ld hx).andThen .now
    have tj : Looks (model PySem.Challenge.rw_tg0040_01.row.prog w) ((hp.push (tupO [v])).push (excO 52 hp.objs.size none)) (specialOf (.ref (hp.objs.size + 1)) "__init__") (some (.ref 36)) := by
      unfold specialOf; exact t1.andThen (looks_findIn X1 hi)
    have b1 := bind_fn (M := model PySem.Challenge.rw_tg0040_01.row.prog w) X1 (.ref (hp.objs.size + 1)) hf
    refine wpAny_bind (wpAny_holding ?_)
    unfold callSpecial?
    refine wpAny_bind (tj.here (wpAny_holding (wpAny_bind (b1.here ?_))))
    refine wpAny_bind (wpAny_call (codeAny_mono (h _ (hp.objs.size + 1) hp.objs.size kp (Heap.get?_none_of_le (Nat.le_succ _)) (Heap.get?_none_of_le (Nat.le_refl _)) (Nat.succ_ne_self _) hx ht) fun r s' hr => ?_))
    obtain ⟨rfl, hq⟩ := hr
    refine wpAny_pure ?_
    refine wpAny_pure ?_
    show Q (.ref (hp.push (tupO [v])).objs.size) s'
    rw [hs1]; exact hq
end

/-! text X2 -/
section
variable {w : World} {A : Around} {E : Value → Shared → Prop} {s : Shared}
theorem refuse52 (self : Value) : refuseLoop self "__setattr__" [.ref 52, .ref 39, .type "ValueError", .type "Exception", .type "BaseException", .type "object"] = pure () := by
  rw [refuseLoop_ref, refuseLoop_ref]
  kernel_rfl
theorem set_reason {e t : Addr} {v : Value} {Q : Unit → Shared → Prop} (X : (hd.heap_1 w.params).In s.heap) (he : s.heap.get? e = some (excO 52 t none))
    (h : ∀ h' d k, h'.get? e = some (excO 52 t (some d)) → (∀ b o, b ≠ e → s.heap.get? b = some o → h'.get? b = some o) → s.heap.get? d = none → Q () { s with heap := h', toks := k }) :
    wpAny (model PySem.Challenge.rw_tg0040_01.row.prog w) A (setAttr (.ref e) (Str.ofString "reason") v) Q E s := by
  revert X; k_fill; intro X
  have hi := id (α := findIn (hd.heap_1 w.params) (.ref 52) "__setattr__" = some (some (.builtin "object.__setattr__"))) (by k_is)
  have hr := id (α := findIn (hd.heap_1 w.params) (.ref 52) "reason" = some none) (by k_is)
  have hmr := id (α := mroIn (hd.heap_1 w.params) 52 (.type "object") = some true) (by k_is)
  obtain ⟨nm, q, N, bs, hdct, sn, sub, ab, col, dd, k0, k1, k2, k3, k5, hC⟩ := cls52 X
  have SF := PySem.F.store_object
  obtain ⟨hp, g, dr, tk, os⟩ := s
  try dsimp only at he X hC h
  have t1 : Looks (model PySem.Challenge.rw_tg0040_01.row.prog w) hp (typeOf (.ref e)) (.ref 52) := (Looks.ld he).andThen .now
  have tj : Looks (model PySem.Challenge.rw_tg0040_01.row.prog w) hp (specialOf (.ref e) "__setattr__") (some (.builtin "object.__setattr__")) := by
    unfold specialOf; exact t1.andThen (looks_findIn X hi)
  have hm : Looks (model PySem.Challenge.rw_tg0040_01.row.prog w) hp (mroOf (.ref 52)) (.ref 52 :: bm52) := ((Looks.ld (part := none) hC).andThen .now).andThen .now
  have sub : Looks (model PySem.Challenge.rw_tg0040_01.row.prog w) hp (isInstance (.ref e) (.type "object")) true := t1.andThen (looks_mroIn X hmr)
  unfold setAttr
  refine wpAny_bind (wpAny_mkText ?_)
  refine wpAny_bind ?_
  unfold callSpecial?
  refine wpAny_bind (tj.here ?_)
  refine wpAny_holding (wpAny_bind (wpAny_of_eq (SF.slot.bind _) ?_))
  refine wpAny_bind (wpAny_call ?_)
  refine codeAny_call_builtin SF.slot.plain SF.entry (@check_slot (model PySem.Challenge.rw_tg0040_01.row.prog w) _ _ ⟨hp, g, dr, tk + 1, os⟩ "object.__setattr__" "object" "__setattr__" (.ref e) [.str (Str.ofString "reason") tk, v] [] _ SF.kind SF.split sub (SF.args (.ref e) (.str (Str.ofString "reason") tk) v) ?_)
  show wpAny _ _ (Builtin.«object.__setattr__» ⟨[.ref e, .str (Str.ofString "reason") tk, v], []⟩) _ _ _
  rw [osa_eq, refuse_eq]
  refine wpAny_bind (wpAny_bind (t1.here (wpAny_bind (hm.here ?_))))
  rw [refuse52]
  refine wpAny_pure (wpAny_bind (t1.here (wpAny_bind ((looks_findIn X hr).here (wpAny_bind (wpAny_pure ?_))))))
  have hh := id (α := hasDictIn (hd.heap_1 w.params) 52 = true) (by k_is)
  obtain ⟨cd, hc, hd'⟩ := any_some hh
  have hne : e ≠ hp.objs.size := Nat.ne_of_lt (Heap.lt_size he)
  have eD : ∀ o : Obj, ((hp.push o).update e fun o => { o with dict := some hp.objs.size }).get? hp.objs.size = (hp.push o).get? hp.objs.size := fun o => Heap.get?_update_other _ _ hne
  have eE : ∀ o : Obj, ((hp.push o).update e fun o => { o with dict := some hp.objs.size }).get? e = some (excO 52 t (some hp.objs.size)) := fun o => Heap.get?_update_self _ (Heap.get?_push_of_some _ he) rfl
  refine wpAny_bind (wpAny_pure (wpAny_bind (wpAny_bind (wpAny_loadPart he (wpAny_bind ((looks_clsIn X hc).here ?_))))))
  rw [hd']
  refine wpAny_bind (wpAny_alloc (wpAny_bind (wpAny_update (Heap.get?_push_of_some _ he) ?_)))
  refine wpAny_bind (wpAny_pure ?_)
  refine wpAny_pure ?_
  have D : ((hp.push { cls := .type "dict", data := .dict #[] }).update e fun o => { o with dict := some hp.objs.size }).get? hp.objs.size = some { cls := .type "dict", data := .dict #[] } := (eD _).trans (Heap.get?_push_size _ rfl)
  have E1 := eE { cls := .type "dict", data := .dict #[] }
  have kp : ∀ b o, b ≠ e → hp.get? b = some o → ((hp.push { cls := .type "dict", data := .dict #[] }).update e fun o => { o with dict := some hp.objs.size }).get? b = some o := fun b o hb ho =>
    (Heap.get?_update_other _ _ (Ne.symm hb)).trans (Heap.get?_push_of_some _ ho)
  generalize ((hp.push { cls := .type "dict", data := .dict #[] }).update e fun o => { o with dict := some hp.objs.size }) = H at D E1 kp
  show wpAny _ _ (ObjectAttr.storeInDict hp.objs.size _ _ v) _ _ ⟨H, g, dr, tk + 1, os⟩
  refine wpAny_bind (wpAny_pure (wpAny_bind ?_))
  unfold nsSet
  refine wpAny_bind (wpAny_bind (wpAny_askSetting (wpAny_pure (wpAny_bind (wpAny_mkText (wpAny_bind (wpAny_loadPart D ?_)))))))
  try dsimp only
  refine wpAny_ite (KBy.ite_no Bool.false_ne_true ?_)
  refine wpAny_updatePart D ?_
  try dsimp only
  generalize (if (Str.ofString "reason").cps.isEmpty = true then (0 : Int) else reduceHash ((model PySem.Challenge.rw_tg0040_01.row.prog w).w.params.strHash (Str.ofString "reason").cps)) = hv
  have D2 : (H.update hp.objs.size (Obj.putName (Str.ofString "reason") hv (.str (Str.ofString "reason") (tk + 1)) v)).get? hp.objs.size = some { cls := .type "dict", data := .dict #[⟨hv, .str (Str.ofString "reason") (tk + 1), v⟩] 1 } := Heap.get?_update_self _ D rfl
  refine wpAny_bind (wpAny_lookBehind D2 (by simp [Data.pastItsLine, sizeLine_eq]) ?_)
  refine wpAny_pure ?_
  show wpAny _ _ (pure (some Value.none)) _ _ _
  refine wpAny_pure ?_
  refine wpAny_pure ?_
  refine h _ hp.objs.size _ ((Heap.get?_update_other _ _ (Ne.symm hne)).trans E1) (fun b o hb ho => ?_) (Heap.get?_none_of_le (Nat.le_refl _))
  exact (Heap.get?_update_other _ _ (Nat.ne_of_gt (Heap.lt_size ho))).trans (kp b o hb ho)
end

/-! text X3 -/
section
variable {w : World} {A : Around} {E : Value → Shared → Prop} {s : Shared}
theorem vinit {e t : Addr} {v : Value} {Q : Value → Shared → Prop} (X : (hd.heap_1 w.params).In s.heap) (he : s.heap.get? e = some (excO 52 t none))
    (h : ∀ h' t2, h'.get? e = some (excO 52 t2 none) → h'.get? t2 = some (tupO [v]) → (∀ b o, b ≠ e → s.heap.get? b = some o → h'.get? b = some o) → t2 = s.heap.objs.size → Q .none { s with heap := h' }) :
    wpAny (model PySem.Challenge.rw_tg0040_01.row.prog w) A (call (.builtin "ValueError.__init__") [.ref e, v]) Q E s := by
  have FB := PySem.F.excBase_ValueError
  obtain ⟨nm, q, N, bs, hdct, sn, sub, ab, col, dd, k0, k1, k2, k3, k5, hC⟩ := cls52 X
  obtain ⟨hp, g, dr, tk, os⟩ := s
  try dsimp only at he X hC h
  have hcB : (Value.ref 52 :: bm52).contains (.type "ValueError") = true := by decide
  have hshort := FB.noStar
  refine wpAny_call (codeAny_call_builtin FB.init.plain FB.initEntry ?_)
  simp only [checkBuiltinCall, FB.initKind, FB.initSplit, FB.initRow]
  repeat (first | (with_reducible refine wpAny_loadPart_at he ?_) | with_reducible refine wpAny_loadPart_at hC ?_ | (with_reducible refine wpAny_isSubtype_exc hC ?_; rw [hcB]) | wp_step)
  have hne : e ≠ hp.objs.size := Nat.ne_of_lt (Heap.lt_size he)
  refine h _ hp.objs.size ((Heap.get?_update_self _ (Heap.get?_push_of_some _ he) rfl).trans rfl) ((Heap.get?_update_other _ _ hne).trans (Heap.get?_push_size _ rfl)) (fun b o hb ho => (Heap.get?_update_other _ _ (Ne.symm hb)).trans (Heap.get?_push_of_some _ ho)) rfl
end
section
variable {prog : Program} {w : World} {A : Around} {E : Value → Shared → Prop} {s : Shared} {h₀ : Heap} {L e t : Addr} {m : Str → Option Value} {news : List (Addr × Obj)} {u : Obj → List (Addr × Obj)} {v : Value}
theorem vinitN {Q : Value → Shared → Prop} (X : (hd.heap_1 w.params).In h₀) (F : Fr h₀ L s.heap m) (N : News h₀ L s.heap news) (U : UpdF e (excO 52 t none) news u)
    (h : ∀ h' t2, Fr h₀ L h' m → News h₀ L h' ((t2, tupO [v]) :: u (excO 52 t2 none)) → (∀ q ∈ news, q.1 < t2) → Q .none { s with heap := h' }) : wpAny (model PySem.Challenge.rw_tg0040_01.row.prog w) A (call (.builtin "ValueError.__init__") [.ref e, v]) Q E s :=
  vinit (X.keeps F.keep) (N.get (UpdF.here U)) fun h' t2 e1 e2 kp es => h h' t2 (upd_keep F N U e1 kp).1 (fun p hp => by
    rcases List.mem_cons.mp hp with rfl | hp
    · subst es; exact ⟨e2, Nat.ne_of_gt F.ns.lt, none_at_size F⟩
    · exact (upd_keep F N U e1 kp).2 p hp) (fun q hq => by subst es; exact Heap.lt_size (N q hq).1)
theorem set_reasonN {Q : Unit → Shared → Prop} (X : (hd.heap_1 w.params).In h₀) (F : Fr h₀ L s.heap m) (N : News h₀ L s.heap news) (U : UpdF e (excO 52 t none) news u)
    (h : ∀ h' d k, Fr h₀ L h' m → News h₀ L h' (u (excO 52 t (some d))) → Q () { s with heap := h', toks := k }) : wpAny (model PySem.Challenge.rw_tg0040_01.row.prog w) A (setAttr (.ref e) (Str.ofString "reason") v) Q E s :=
  set_reason (X.keeps F.keep) (N.get (UpdF.here U)) fun h' d k e1 kp _ => h h' d k (upd_keep F N U e1 kp).1 (upd_keep F N U e1 kp).2
end

theorem excVE_meta : typeOf (.type "ValueError") = pure (.type "type") := by kernel_rfl
theorem ln_X3_1 : True := by
  k_with "getMethod type:ValueError" => (k_here; (refine' method_type ?F ?X excVE_meta ?st ?e ?h ?_; (case st => decide +kernel); (case F => k_asm); (case X => k_asm); (case e => k_dflt k_is); (case h => k_handed)))
  k_with "call builtin:ValueError.__init__" => (k_here; (with_reducible show wpAny _ _ (call (Value.builtin _) [Value.ref _, _]) _ _ _); k_dflt ((rename Fr _ _ _ _ => F'); (rename News _ _ _ _ => N'); (refine vinitN X' F' N' (by k_updF) ?_); intro h' t2' F' N' l1; (try k_lt l1); (try dsimp only at N' ⊢)))
  k_with "setAttr ref" => (k_here; (with_reducible show wpAny _ _ (setAttr (Value.ref _) (PySem.Str.ofString "reason") _) _ _ _); k_dflt ((rename Fr _ _ _ _ => F'); (rename News _ _ _ _ => N'); (refine set_reasonN X' F' N' (by k_updF) ?_); intro h' d' k' F' N'; (try dsimp only at N' ⊢)))
  trivial
section
variable {w : World} {A A₀ : Around} {s : Shared} {L : Addr} {h₀ base : Heap} {m mg mb : Str → Option Value} {loose : List Str} {mean : ExcName → Option Value} {env : Env} {outer : List Env} {e t : Addr} {R : Result → Shared → Prop}
theorem init_exc (C : Cx w A A₀ L h₀ base env outer mean mg mb loose 15 60) (F : Fr h₀ L s.heap m) {msg : Str} {tm : Tok} (N : News h₀ L s.heap [(e, excO 52 t none)])
    (ret : ∀ h' t2 d tk, Fr h₀ L h' m → Kept s.heap h' [e] → s.heap.get? t2 = none → h'.get? e = some (excO 52 t2 (some d)) → h'.get? t2 = some (tupO [.str msg tm]) → R (.ok (.ret .none)) { s with heap := h', toks := tk }) :
    codeAny (model PySem.Challenge.rw_tg0040_01.row.prog w) A (.call (.ref 36) ⟨[.ref e, .str msg tm], []⟩) R s := by
  walk_at "start"
  k_dflt walk_at "enterW"
  k_steps
  rename News _ _ _ _ => N'
  exact BackW.fin (mods := [e]) (by assumption) N N' hg' (by walk_at "modsub") fun F K => ret _ _ _ _ F K (fresh_of hg' N' (by walk_at "mem") (by k_all)) (N'.get (by walk_at "mem")) (N'.get (by walk_at "mem"))
end

/-! text X4 -/
section
variable {prog : Program} {w : World} {A A₀ : Around} {s : Shared} {K : Frag} {L : Addr} {h₀ base : Heap} {m mg mb : Str → Option Value} {news : List (Addr × Obj)} {p : Program} {loose : List Str} {mean : ExcName → Option Value}
/-- stands in the context of a walk that is to raise -/
structure BadMark : Prop where
/-- the caller's frame stands in the ground that its callee is given -/
structure GrW (h₀ : Heap) (L : Addr) (g : Heap) (m : Str → Option Value) : Prop where
  fr : Fr h₀ L g m
/-- as code_defW, for a def that may raise: the ground g that it leaves is told -/
theorem code_defR {env : Env} {outer : List Env} {R : Result → Shared → Prop} {name qual : Str} {params : Arguments} {body : List Stmt} {scope : Scope} {dV kV doc pm cdv ct oc : Value} {an od : Option Addr} {osl : Array (Option Value)} {f : Addr} {args : Args} {binds : List (Str × Value)}
    (B : Below A₀ base outer h₀) (F : Fr h₀ L s.heap m) (X₀ : K.In h₀) (N : News h₀ L s.heap news) (T : Top p loose mean mg mb h₀) (hA : A.frames = some (env :: outer)) (hf : env.frame = some L) (hke : env.scope.kind = .function)
    (ho : K.lookup f = some ⟨oc, od, .func (fnOf name qual params body scope dV kV doc pm an cdv ct), osl⟩) (hcd : codeIn K cdv qual = true) (hroom : A.depth < recursionLimit)
    (hbind : BindsTo s (fnOf name qual params body scope dV kV doc pm an cdv ct) args binds) (hloc : ∀ y ∈ binds, scope.names.lookup y.1 = some .local)
    (h : ∀ g L' h₁, Fr g L' h₁ (fun y => binds.reverse.lookup y) → News g L' h₁ news → Below A base (env :: outer) g → K.In g → Top p loose mean mg mb g → GrW h₀ L g m → (∀ b o, s.heap.get? b = some o → b ∉ news.map (·.1) → g.get? b = some o) →
      wpAny (model prog w) (A.deeper (envOf qual scope L' f cdv)) (execs body (envOf qual scope L' f cdv))
        (fun fl s' => BackW h₀ L m g R (match fl with | .ret v => v | _ => .none) s')
        (fun e s' => wpAny (model prog w) (A.deeper (envOf qual scope L' f cdv)) (leaving (envOf qual scope L' f cdv) e) (fun _ s'' => R (.error e) s'') (fun e' s'' => R (.error e') s'') s')
        { s with heap := h₁, toks := s.toks + binds.length })
    (hco : scope.isCoroutine = false) (hgen : scope.isGenerator = false) (hk : scope.kind = .function)
    (hcell : ∀ x ∈ scope.names, x.2 ≠ .cell) : codeAny (model prog w) A (.call (.ref f) args) R s := by
  have ho' : s.heap.get? f = _ := (X₀.keeps F.keep) _ _ ho
  have hcd' : s.heap.CodeRec cdv qual := codeRec_of (X₀.keeps F.keep) hcd
  obtain ⟨FG, BG, st, lv⟩ := groundX (R := R) B F N hA hf hke
  refine codeAny_call_def (fd := fnX name qual params body scope [] dV kV doc pm an cdv ct) (body := body) (binds := binds) hroom ho' rfl (T.nolimit.keeps F.keep) hcd' rfl hbind hcell hloc (fun h₁ hns hk₁ => ?_) hco hgen hk
  refine wpAny_mono (h _ s.heap.objs.size h₁ ⟨hns, fun b o e => hk₁ b o (of_hideAll _ e), Nat.le_of_eq (hideAll_size _ _)⟩
    (fun p hp => ⟨hk₁ _ _ (N p hp).1, Nat.ne_of_lt (Heap.lt_size (N p hp).1), hideAll_none _ (List.mem_map_of_mem hp)⟩) BG (X₀.keeps st) (T.keeps st) ⟨FG⟩ (fun b o e hn => hideAll_get _ e hn)) (fun fl s' hl => ?_) fun _ _ y => y
  obtain ⟨L₂, m₂, F₂, k⟩ := hl
  exact lv _ _ ⟨L₂, m₂, [], F₂, News.nil, fun F₁ _ => k F₁ F₂.keep⟩
end
theorem ln_X4_1 : True := by
  k_with "enterR" => (refine' code_defR ?k1 ?k2 ?k3 ?k4 ?k5 ?kA ?kF ?kK ?k6 ?k7 ?k8 ?k9 ?kB ?_ ?c2 ?c3 ?c4 ?c5; (case kA => first | assumption | exact rfl); (case kF => first | assumption | exact rfl); (case kK => first | assumption | exact rfl); (case k1 => k_asm); (case k2 => k_asm); (case k3 => k_asm); (case k4 => k_asm); (case k5 => k_asm); (case k6 => k_is); (case k7 => k_is); (case k8 => k_room); (case k9 => first | exact BindsTo.of_eq rfl | exact binds_K (by k_in) rfl (by k_is) rfl rfl rfl | fail "enter: the arguments"); (case c5 => decide); (case kB => exact locs rfl); (case c2 => exact rfl); (case c3 => exact rfl); (case c4 => exact rfl); k_whole; intro g' L' h' F' N' B' X' T' FG' hg'; (refine Cx.useL B' X' T' hA hh hd hu rfl rfl ?_; intro e9 A9 C'); (try dsimp only [winEs] at N'); (try dsimp only); (try k_fold))
  trivial
section
variable {M : Model} {A : Around} {E : Value → Shared → Prop} {s' : Shared} {base g g₂ h : Heap} {outer : List Env} {L a e t d : Addr} {m : Str → Option Value} {name : Str} {scope : Scope} {cd : Value} {Q : Unit → Shared → Prop} {news : List (Addr × Obj)} {vs : List Value} {C : Addr}
theorem leave_own (K : Below A base outer g) (hk : ∀ b o, h.get? b = some o → s'.heap.get? b = some o) (he : s'.heap.get? e = some (excO C t (some d))) (ht : s'.heap.get? t = some (tupO vs)) (hen : h.get? e = none) (htn : h.get? t = none) (F : Fr g L h m) (N : News g L h news)
    (hQ : ∀ h', RaisedS base g outer e (.ref C) t vs news h' → g.UpToSlots h' → Q () { s' with heap := h' }) (hks : scope.kind = .function := by rfl) :
    wpAny M (A.deeper (envOf name scope L a cd)) (leaving (envOf name scope L a cd) (.ref e)) Q E s' := by
  have K' := K.push (name := name) (a := a) (cd := cd) F hks
  generalize hl0 : (envOf name scope L a cd :: outer).filterMap (·.frame) = fs at *
  have hin : ∀ env ∈ (envOf name scope L a cd :: outer), ∀ b, env.frame = some b → b ∈ fs := fun env he b hb => hl0 ▸ List.mem_filterMap.mpr ⟨env, he, hb⟩
  have st : base.StaysIn (hideAll h fs) := fun b o q => hideAll_get _ (K'.stays b o q) fun hm => by
    rw [← hl0] at hm
    rw [(K'.frames.mem hm).1] at q; cases q
  have sg : ∀ b o, g.get? b = some o → b ∉ outer.filterMap (·.frame) → (hideAll h fs).get? b = some o := fun b o q nm => hideAll_get _ (F.keep b o q) fun hm => by
    rw [← hl0] at hm
    rcases kts_mem hm with z | z
    · rw [z, kts_self F] at q; cases q
    · exact nm z
  have hl : ∀ q ∈ news, (hideAll h fs).get? q.1 = some q.2 ∧ g.get? q.1 = none ∧ base.get? q.1 = none := fun q hq => by
    refine ⟨hideAll_get _ (N q hq).1 fun hm => ?_, (N q hq).2.2, fresh_of_stays K.stays (N q hq).2.2⟩
    rw [← hl0] at hm
    rcases kts_mem hm with z | z
    · exact (N q hq).2.1 z
    · obtain ⟨o, ho, _⟩ := (K.frames.mem z).2
      rw [(N q hq).2.2] at ho; cases ho
  have nof : ∀ b, h.get? b = none → (hideAll h fs).get? b = none := fun b hb => by
    cases q : (hideAll h fs).get? b with
    | none => rfl
    | some o => have := of_hideAll _ q; rw [hb] at this; cases this
  refine wpAny_leaving_firstW (a0 := .ref t) K'.stack ((funFrames_hide K'.frames hin).of_keeps fun b o hb _ => ⟨o, hk b o hb, rfl⟩) rfl he (fun b o hb => hk b o (of_hideAll _ hb)) (nof e hen) rfl rfl rfl fun h' hL => ?_
  obtain ⟨k1, ⟨_, _, k2⟩, k3, k4⟩ := hL
  exact hQ h' ⟨⟨_, st, sg, hl, ⟨k1, nof e hen, k2, k3⟩, nof t htn⟩, Heap.TupAt.of_slots ⟨_, _, ht, rfl, rfl⟩ k4⟩ (((Heap.UpToSlots.of_keeps F.keep).trans (Heap.UpToSlots.of_keeps hk)).trans k4)
end
section
variable {w : World} {A A₀ : Around} {s : Shared} {L : Addr} {h₀ base : Heap} {m mg mb : Str → Option Value} {loose : List Str} {mean : ExcName → Option Value} {env : Env} {outer : List Env} {Q : Value → Shared → Prop} {E : Value → Shared → Prop} {x dx rg : Addr} {news : List (Addr × Obj)}
theorem make52N (C : Cx w A A₀ L h₀ base env outer mean mg mb loose 16 61) (F : Fr h₀ L s.heap m) (N : News h₀ L s.heap news) {msg : Str} {tm : Tok}
    (h : ∀ h' e t d tk, Fr h₀ L h' m → News h₀ L h' news → (∀ b o, s.heap.get? b = some o → h'.get? b = some o) → s.heap.get? e = none → s.heap.get? t = none → h'.get? e = some (excO 52 t (some d)) → h'.get? t = some (tupO [.str msg tm]) → Q (.ref e) { s with heap := h', toks := tk }) :
    wpAny (model PySem.Challenge.rw_tg0040_01.row.prog w) A (call (.ref 52) [.str msg tm]) Q E s := by
  refine x_make52 (C.X.keeps F.keep) fun h₁ e t k₁ en tn ne he ht => ?_
  have F₁ : Fr h₀ L h₁ m := F.keeps k₁
  refine init_exc (s := { s with heap := h₁ }) (C.make (by omega) (by omega)) F₁ (News.fresh1 (m := m) F en he News.nil) fun h₂ t₂ d tk F₂ K₂ tn₂ he₂ ht₂ => ⟨rfl, ?_⟩
  have k₂ : ∀ b o, s.heap.get? b = some o → h₂.get? b = some o := fun b o q => K₂ b o (fun hm => by rw [List.mem_singleton.mp hm, en] at q; cases q) (k₁ b o q)
  refine h h₂ e t₂ d tk F₂ (fun p hp => ⟨k₂ _ _ (N p hp).1, (N p hp).2⟩) k₂ en ?_ he₂ ht₂
  cases q : s.heap.get? t₂ with
  | none => rfl
  | some o => rw [show h₁.get? t₂ = _ from k₁ _ _ q] at tn₂; cases tn₂
end
theorem ln_X4_2 : True := by
  k_with "exec Raise some none" => (k_here; (with_reducible show wpAny _ _ (exec (Stmt.Raise (some (Expr.Call (Expr.Name (PySem.Str.ofString "BadDistance") _) _ [] _)) none _) _) _ _ _); k_dflt (refine raise52 (P := w.params) rfl ?_))
  k_with "call ref" => (k_here; (with_reducible show wpAny _ _ (call (Value.ref 52) _) _ _ _); k_dflt ((rename Fr _ _ _ _ => F'); (rename News _ _ _ _ => N'); (refine make52N (C'.mono (by omega) (by omega)) F' N' ?_); intro h2 e2 t2 d2 tk2 F2 N2 k2 en2 tn2 he2 ht2; (dsimp only at k2 en2 tn2)))
  trivial
section
variable {w : World} {A A₀ : Around} {s : Shared} {L : Addr} {h₀ base : Heap} {m mg mb : Str → Option Value} {loose : List Str} {mean : ExcName → Option Value} {env : Env} {outer : List Env} {Q : Value → Shared → Prop} {E : Value → Shared → Prop} {x dx rg : Addr} {news : List (Addr × Obj)}
theorem need_bad (C : Cx w A A₀ L h₀ base env outer mean mg mb loose 25 90) (F : Fr h₀ L s.heap m)
    {k1 k2 k3 k4 t1 t2 t4 td : Tok} {sz tot sp d : Int} {bs : List UInt8}
    (N : News h₀ L s.heap [(x, instObj 159 dx), (dx, dictOf (winEs w.params k1 k2 k3 k4 sz tot sp t1 t2 t4 rg) 4), (rg, baO bs)]) (hz : bs.length ≤ 100000) (hbad : bs.length < d ∧ d ≤ 100001)
    (ret : ∀ g e t vs h' tk, GrW h₀ L g m → RaisedS base g (env :: outer) e (.ref 52) t vs [(x, instObj 159 dx), (dx, dictOf (winEs w.params k1 k2 k3 k4 sz tot sp t1 t2 t4 rg) 4), (rg, baO bs)] h' → g.UpToSlots h' → (∀ b o, s.heap.get? b = some o → b ∉ [x, dx, rg] → g.get? b = some o) → E (.ref e) { s with heap := h', toks := tk }) :
    wpAny (model PySem.Challenge.rw_tg0040_01.row.prog w) A (call (.ref 128) [.ref x, .int d td]) Q E s := by
  have bad : BadMark := ⟨⟩
  walk_at "start"
  refine wpAny_call ?_
  k_dflt walk_at "enterR"
  k_steps
  exact leave_own B' k2 he2 ht2 en2 tn2 (by assumption) (by assumption) fun h3 R U => ret _ _ _ _ _ _ FG' R U hg'
end
theorem ln_X4_3 : True := by
  k_with "call ref" => (k_here; (with_reducible show wpAny _ _ (call (Value.ref 128) _) _ _ _); (with_reducible rename BadMark => bad); k_dflt ((rename Fr _ _ _ _ => F'); (rename News _ _ _ _ => N'); (try dsimp only at N'); (refine need_bad (C'.mono (by omega) (by omega)) F' (News.three N' (by walk_at "mem") (by walk_at "mem") (by walk_at "mem")) ?z ?z2 ?_; (case z => omega); (case z2 => omega)); intro g3 e3 t3 v3 h3 tk3 G3 R3 U3 hg3))
  trivial
section
variable {w : World} {A A₀ : Around} {s : Shared} {L : Addr} {h₀ base : Heap} {m mg mb : Str → Option Value} {loose : List Str} {mean : ExcName → Option Value} {env : Env} {outer : List Env} {Q : Value → Shared → Prop} {E : Value → Shared → Prop} {x dx rg : Addr} {news : List (Addr × Obj)}
theorem at_bad (C : Cx w A A₀ L h₀ base env outer mean mg mb loose 35 120) (F : Fr h₀ L s.heap m)
    {k1 k2 k3 k4 t1 t2 t4 td : Tok} {sz tot sp d : Int} {bs : List UInt8}
    (N : News h₀ L s.heap [(x, instObj 159 dx), (dx, dictOf (winEs w.params k1 k2 k3 k4 sz tot sp t1 t2 t4 rg) 4), (rg, baO bs)]) (hz : bs.length ≤ 100000) (hbad : bs.length < d ∧ d ≤ 100001)
    (ret : ∀ g e t vs h' tk, GrW h₀ L g m → RaisedS base g (env :: outer) e (.ref 52) t vs [(x, instObj 159 dx), (dx, dictOf (winEs w.params k1 k2 k3 k4 sz tot sp t1 t2 t4 rg) 4), (rg, baO bs)] h' → g.UpToSlots h' → (∀ b o, s.heap.get? b = some o → b ∉ [x, dx, rg] → g.get? b = some o) → E (.ref e) { s with heap := h', toks := tk }) :
    wpAny (model PySem.Challenge.rw_tg0040_01.row.prog w) A (call (.ref 135) [.ref x, .int d td]) Q E s := by
  have bad : BadMark := ⟨⟩
  walk_at "start"
  refine wpAny_call ?_
  k_dflt walk_at "enterR"
  k_steps
  exact leave_onS B' G3.fr R3 U3 fun h4 R _ U => ret _ _ _ _ _ _ FG' R U hg'
theorem copy_bad (C : Cx w A A₀ L h₀ base env outer mean mg mb loose 35 120) (F : Fr h₀ L s.heap m)
    {k1 k2 k3 k4 t1 t2 t4 td tn : Tok} {sz tot sp d : Int} {bs : List UInt8} {n : Int}
    (N : News h₀ L s.heap [(x, instObj 159 dx), (dx, dictOf (winEs w.params k1 k2 k3 k4 sz tot sp t1 t2 t4 rg) 4), (rg, baO bs)]) (hz : bs.length ≤ 100000) (hbad : bs.length < d ∧ d ≤ 100001)
    (ret : ∀ g e t vs h' tk, GrW h₀ L g m → RaisedS base g (env :: outer) e (.ref 52) t vs [(x, instObj 159 dx), (dx, dictOf (winEs w.params k1 k2 k3 k4 sz tot sp t1 t2 t4 rg) 4), (rg, baO bs)] h' → g.UpToSlots h' → (∀ b o, s.heap.get? b = some o → b ∉ [x, dx, rg] → g.get? b = some o) → E (.ref e) { s with heap := h', toks := tk }) :
    wpAny (model PySem.Challenge.rw_tg0040_01.row.prog w) A (call (.ref 142) [.ref x, .int d td, .int n tn]) Q E s := by
  have bad : BadMark := ⟨⟩
  walk_at "start"
  refine wpAny_call ?_
  k_dflt walk_at "enterR"
  k_steps
  exact leave_onS B' G3.fr R3 U3 fun h4 R _ U => ret _ _ _ _ _ _ FG' R U hg'
end
theorem ln_X4_4 : True := by
  k_with "call ref" => (k_here; (with_reducible show wpAny _ _ (call (Value.ref 135) _) _ _ _); (with_reducible rename BadMark => bad); k_dflt ((rename Fr _ _ _ _ => F'); (rename News _ _ _ _ => N'); (try dsimp only at N'); (refine at_bad (C'.mono (by omega) (by omega)) F' (News.three N' (by walk_at "mem") (by walk_at "mem") (by walk_at "mem")) ?z ?z2 ?_; (case z => omega); (case z2 => omega)); intro g3 e3 t3 v3 h3 tk3 G3 R3 U3 hg3))
  k_with "call ref" => (k_here; (with_reducible show wpAny _ _ (call (Value.ref 142) _) _ _ _); (with_reducible rename BadMark => bad); k_dflt ((rename Fr _ _ _ _ => F'); (rename News _ _ _ _ => N'); (try dsimp only at N'); (refine copy_bad (C'.mono (by omega) (by omega)) F' (News.three N' (by walk_at "mem") (by walk_at "mem") (by walk_at "mem")) ?z ?z2 ?_; (case z => omega); (case z2 => omega)); intro g3 e3 t3 v3 h3 tk3 G3 R3 U3 hg3))
  trivial

/-! text Y1 -/
abbrev fsOf (l : List Env) : List Addr := l.filterMap (·.frame)
theorem fsOf_cons {env : Env} {outer : List Env} {L b : Addr} (hf : env.frame = some L) (h : b ∈ fsOf (env :: outer)) : b = L ∨ b ∈ fsOf outer := by
  obtain ⟨e, he, hb⟩ := List.mem_filterMap.mp h
  rcases List.mem_cons.mp he with rfl | he
  · rw [hf] at hb; exact .inl (Option.some.inj hb).symm
  · exact .inr (List.mem_filterMap.mpr ⟨e, he, hb⟩)
/-- what more is known of the ground where a raise may be caught below -/
structure Gx (w : World) (base h₀ : Heap) (outer : List Env) (mean : ExcName → Option Value) (mg mb : Str → Option Value) (loose : List Str) : Prop where
  X : (hd.heap_1 w.params).In base
  T : Top q0 loose mean mg mb base
  D : KtsDicts (fsOf outer) h₀
theorem Cx.turn {w : World} {A A₀ : Around} {L : Addr} {h₀ h₀' base : Heap} {env : Env} {outer : List Env} {mean : ExcName → Option Value} {mg mb : Str → Option Value} {loose : List Str} {k u : Nat}
    (C : Cx w A A₀ L h₀ base env outer mean mg mb loose k u) (B : Below A₀ base outer h₀') (X : (hd.heap_1 w.params).In h₀') (T : Top q0 loose mean mg mb h₀') : Cx w A A₀ L h₀' base env outer mean mg mb loose k u :=
  ⟨B, X, T, C.hA, C.hf, C.hke, C.hh, C.hd, C.hu⟩
section
variable {prog : Program} {w : World} {A A₀ : Around} {s : Shared} {K : Frag} {L : Addr} {h₀ base : Heap} {m mg mb : Str → Option Value} {news : List (Addr × Obj)} {p : Program} {loose : List Str} {mean : ExcName → Option Value} {env : Env} {outer : List Env}
/-- what a callee leaves that caught a raise: the frames' slots may have changed -/
def BackT (K : Frag) (p : Program) (loose : List Str) (mean : ExcName → Option Value) (mg mb : Str → Option Value) (A₀ : Around) (base : Heap) (env : Env) (outer : List Env) (h₀ : Heap) (L : Addr) (m : Str → Option Value) (g : Heap) (R : Flow → Shared → Prop) (v : Value) (s' : Shared) : Prop :=
  ∃ g' L' m', KtsTurn (fsOf (env :: outer)) g g' ∧ Fr g' L' s'.heap m' ∧ ∀ h₀', KtsTurn (fsOf outer) h₀ h₀' → Fr h₀' L s'.heap m → Below A₀ base outer h₀' → K.In h₀' → Top p loose mean mg mb h₀' → KtsDicts (fsOf outer) h₀' →
    (∀ b o, g'.get? b = some o → s'.heap.get? b = some o) → R (.ret v) s'
theorem code_defT {R : Flow → Shared → Prop} {name qual : Str} {params : Arguments} {body : List Stmt} {scope : Scope} {dV kV doc pm cdv ct oc : Value} {an od : Option Addr} {osl : Array (Option Value)} {f : Addr} {args : Args} {binds : List (Str × Value)}
    (B : Below A₀ base outer h₀) (F : Fr h₀ L s.heap m) (X₀ : K.In h₀) (N : News h₀ L s.heap news) (T : Top p loose mean mg mb h₀) (XB : K.In base) (TB : Top p loose mean mg mb base) (D : KtsDicts (fsOf outer) h₀) (hA : A.frames = some (env :: outer)) (hf : env.frame = some L) (hke : env.scope.kind = .function)
    (ho : K.lookup f = some ⟨oc, od, .func (fnOf name qual params body scope dV kV doc pm an cdv ct), osl⟩) (hcd : codeIn K cdv qual = true) (hroom : A.depth < recursionLimit)
    (hbind : BindsTo s (fnOf name qual params body scope dV kV doc pm an cdv ct) args binds) (hloc : ∀ y ∈ binds, scope.names.lookup y.1 = some .local)
    (h : ∀ g L' h₁, Fr g L' h₁ (fun y => binds.reverse.lookup y) → News g L' h₁ news → Below A base (env :: outer) g → K.In g → Top p loose mean mg mb g → KtsDicts (fsOf (env :: outer)) g → (∀ b o, s.heap.get? b = some o → b ∉ news.map (·.1) → g.get? b = some o) →
      wpC (model prog w) (A.deeper (envOf qual scope L' f cdv)) (execs body (envOf qual scope L' f cdv))
        (fun fl s' => BackT K p loose mean mg mb A₀ base env outer h₀ L m g R (match fl with | .ret v => v | _ => .none) s')
        { s with heap := h₁, toks := s.toks + binds.length })
    (hco : scope.isCoroutine = false) (hgen : scope.isGenerator = false) (hk : scope.kind = .function)
    (hcell : ∀ x ∈ scope.names, x.2 ≠ .cell) : codeC (model prog w) A (.call (.ref f) args) R s := by
  have ho' : s.heap.get? f = _ := (X₀.keeps F.keep) _ _ ho
  have hcd' : s.heap.CodeRec cdv qual := codeRec_of (X₀.keeps F.keep) hcd
  obtain ⟨FG, BG, st, _⟩ := groundX (R := okR R) B F N hA hf hke
  obtain ⟨oL, es, ep, hLg, hLd, hLk, hLf⟩ := FG.ns
  refine codeC_call_function (fd := fnX name qual params body scope [] dV kV doc pm an cdv ct) (body := body) (binds := binds) hroom ho' rfl (T.nolimit.keeps F.keep) hcd' rfl hbind hcell hloc (fun h₁ hns hk₁ => ?_) hco hgen hk
  refine c_mono (h _ s.heap.objs.size h₁ ⟨hns, fun b o e => hk₁ b o (of_hideAll _ e), Nat.le_of_eq (hideAll_size _ _)⟩
    (fun p hp => ⟨hk₁ _ _ (N p hp).1, Nat.ne_of_lt (Heap.lt_size (N p hp).1), hideAll_none _ (List.mem_map_of_mem hp)⟩) BG (X₀.keeps st) (T.keeps st) (fun b hb => by
      rcases fsOf_cons hf hb with rfl | hb
      · exact ⟨oL, es, ep, hLg, hLd⟩
      · obtain ⟨o, es', n', ho', hd'⟩ := D b hb
        exact ⟨o, es', n', st b o ho', hd'⟩) (fun b o e hn => hideAll_get _ e hn)) (fun fl s' hl => ?_)
  obtain ⟨g', L₂, m₂, T', F', k⟩ := hl
  have nL₀ : h₀.get? L = none := kts_self F
  obtain ⟨sl, hs⟩ := T'.up hLg
  obtain ⟨T₁, S₁⟩ := kts_turn_at (h := s'.heap) (fs := fsOf outer) (g := h₀)
    (fun b hb => by
      obtain ⟨_, o, ho', _⟩ := B.frames.mem hb
      exact ⟨o, ho'⟩)
    (fun b o e nmem => F'.keep b o (T'.other b o (st b o e) (fun q => by
      rcases fsOf_cons hf q with z | z
      · rw [z, nL₀] at e; cases e
      · exact nmem z)))
    (fun b o e hm => by
      obtain ⟨sl', hs'⟩ := T'.up (st b o e)
      exact ⟨sl', F'.keep _ _ hs'⟩)
  have B₃ : Below A₀ base outer (ktsHeap s'.heap (fsOf outer) h₀) := ⟨B.stack, fun b o e => T₁.other b o (B.stays b o e) (fun hm => by
    rw [(B.frames.mem hm).1] at e; cases e), B.frames.of_keeps fun b o e _ => by
    obtain ⟨sl', hs'⟩ := T₁.up e
    exact ⟨_, hs', rfl⟩⟩
  have ns' : Heap.Ns s'.heap L m := ⟨_, es, ep, F'.keep _ _ hs, hLd, hLk, hLf⟩
  exact k _ T₁ ⟨ns', S₁, by rw [T₁.size]; exact F.above⟩ B₃ (XB.keeps B₃.stays) (TB.keeps B₃.stays) (D.turn T₁) F'.keep
end
def KeptT (L : Addr) (outer : List Env) (h h' : Heap) (mods : List Addr) : Prop := ∀ b o, b ≠ L → b ∉ fsOf outer → b ∉ mods → h.get? b = some o → h'.get? b = some o
section
variable {w : World} {A A₀ : Around} {s s' : Shared} {L L' : Addr} {h₀ h₀' base g g' h h' : Heap} {m m' mg mb : Str → Option Value} {loose : List Str} {mean : ExcName → Option Value} {env : Env} {outer : List Env} {news news' rest : List (Addr × Obj)} {mods : List Addr} {R : Flow → Shared → Prop} {v : Value} {k u : Nat}
theorem News.turn (B : Below A₀ base outer h₀) (N : News h₀ L h news) (K : KeptT L outer h h' mods) (T : KtsTurn (fsOf outer) h₀ h₀') (hs : ∀ p ∈ rest, p ∈ news) (hn : ∀ p ∈ rest, p.1 ∉ mods) : News h₀' L h' rest := fun p hp => by
  obtain ⟨h1, h2, h3⟩ := N p (hs p hp)
  refine ⟨K _ _ h2 (fun hm => ?_) (hn p hp) h1, h2, T.none_ _ h3⟩
  obtain ⟨_, o, ho, _⟩ := B.frames.mem hm
  rw [h3] at ho; cases ho
theorem BackT.fin (C : Cx w A A₀ L h₀ base env outer mean mg mb loose k u) (_G : Gx w base h₀ outer mean mg mb loose) (N : News h₀ L s.heap news) (hg : ∀ b o, s.heap.get? b = some o → b ∉ news.map (·.1) → g.get? b = some o) (T' : KtsTurn (fsOf (env :: outer)) g g')
    (F' : Fr g' L' s'.heap m') (N' : News g' L' s'.heap news') (hsub : ∀ p ∈ news, p.1 ∈ mods ∨ p ∈ news')
    (hR : ∀ h₀', KtsTurn (fsOf outer) h₀ h₀' → (∀ {k u}, Cx w A A₀ L h₀ base env outer mean mg mb loose k u → Cx w A A₀ L h₀' base env outer mean mg mb loose k u) → Gx w base h₀' outer mean mg mb loose → Fr h₀' L s'.heap m → KeptT L outer s.heap s'.heap mods → R (.ret v) s') :
    BackT (hd.heap_1 w.params) q0 loose mean mg mb A₀ base env outer h₀ L m g R v s' := by
  refine ⟨g', L', m', T', F', fun h₀' T₀ F₀ B₀ X₀ P₀ D₀ kp => hR h₀' T₀ (fun C => C.turn B₀ X₀ P₀) ⟨_G.X, _G.T, D₀⟩ F₀ fun b o hL ho hm e => ?_⟩
  by_cases hx : b ∈ news.map (·.1)
  · obtain ⟨p, hp, rfl⟩ := List.mem_map.mp hx
    have e2 := (N p hp).1
    rw [e] at e2
    rcases hsub p hp with h1 | h1
    · exact absurd h1 hm
    · rw [Option.some.inj e2]; exact (N' p h1).1
  · exact kp _ _ (T'.other _ _ (hg _ _ e hx) fun q => by
      rcases fsOf_cons C.hf q with z | z
      · exact hL z
      · exact ho z)
end

/-! text Y2 -/
theorem ln_Y2_1 : True := by
  k_with "enterT" => (refine' code_defT ?k1 ?k2 ?k3 ?k4 ?k5 ?kX ?kT ?kD ?kA ?kF ?kK ?k6 ?k7 ?k8 ?k9 ?kB ?_ ?c2 ?c3 ?c4 ?c5; (case kX => exact XB); (case kT => exact TB); (case kD => exact DB); (case kA => first | assumption | exact rfl); (case kF => first | assumption | exact rfl); (case kK => first | assumption | exact rfl); (case k1 => k_asm); (case k2 => k_asm); (case k3 => exact X); (case k4 => k_asm); (case k5 => exact T); (case k6 => k_is); (case k7 => k_is); (case k8 => k_room); (case k9 => first | exact BindsTo.of_eq rfl | exact binds_K (by k_in) rfl (by k_is) rfl rfl rfl | fail "enter: the arguments"); (case c5 => decide); (case kB => exact locs rfl); (case c2 => exact rfl); (case c3 => exact rfl); (case c4 => exact rfl); k_whole; intro g' L' h' F' N' B' X' T' D' hg'; (refine Cx.useCL B' X' T' hA hh hd hu rfl rfl ?_; intro e9 A9 C'); (try dsimp only [winEs] at N'); (try dsimp only); (try k_fold))
  k_with "startT" => (obtain ⟨XB, TB, DB⟩ := G; obtain ⟨B, X, T, hA, hf, hke, hh, hd, hu⟩ := C; obtain ⟨hdl, dp, fr, gd, un⟩ := A; (dsimp only at hA hh); subst hA; subst hh; (have hA : Around.frames ⟨none, dp, some (env :: outer), gd, un⟩ = some (env :: outer) := rfl); (have hh : Around.handled ⟨none, dp, some (env :: outer), gd, un⟩ = none := rfl); revert X XB; k_fill; intro XB X)
  trivial
theorem kts52 (P : Params) : ktsIn (hd.heap_1 P) 52 "BaseException" = true := by kernel_rfl
section
variable {w : World} {A A₀ : Around} {s : Shared} {L : Addr} {h₀ base : Heap} {m mg mb : Str → Option Value} {loose : List Str} {mean : ExcName → Option Value} {env : Env} {outer : List Env} {Q : Value → Shared → Prop} {E : Value → Shared → Prop} {news : List (Addr × Obj)} {x dx rg : Addr} {τ : WT} {wd : Nat} {t : List UInt8}
theorem copied_bad (C : Cx w A A₀ L h₀ base env outer mean mg mb loose 45 150) (G : Gx w base h₀ outer mean mg mb loose) (F : Fr h₀ L s.heap m) (N : News h₀ L s.heap news) (hx : (x, instObj 159 dx) ∈ news) (hd : (dx, winD w.params τ wd t rg) ∈ news) (hr : (rg, baO (ringW wd t)) ∈ news)
    {d n : Int} {td tn : Tok} (hw : 1 ≤ wd ∧ wd ≤ 100000) (hbad : ((min t.length wd : Nat) : Int) < d ∧ d ≤ 100001)
    (ret : ∀ h₀' h' tk, KtsTurn (fsOf outer) h₀ h₀' → (∀ {k u}, Cx w A A₀ L h₀ base env outer mean mg mb loose k u → Cx w A A₀ L h₀' base env outer mean mg mb loose k u) → Gx w base h₀' outer mean mg mb loose → Fr h₀' L h' m → KeptT L outer s.heap h' [] → Q .none { s with heap := h', toks := tk }) :
    wpC (model PySem.Challenge.rw_tg0040_01.row.prog w) A (call (.ref 410) [.ref x, .int d td, .int n tn]) Q s := by
  replace N := News.three N hx hd hr
  clear hx hd hr
  have hlen := ringW_length hw.1 t
  have hC := C
  have hG := G
  walk_at "startT"
  refine c_call ?_
  k_dflt walk_at "enterT"
  refine c_fold ?_
  intro q0 hq0
  have bad : BadMark := ⟨⟩
  refine c_consA ?_
  k_steps
  refine caught_SO0 (C := 52) R3 G3.fr B' U3 XB TB D' KtsTurn.refl (by k_dflt k_is) (kts52 _) ?_
  intro h6 g6 n6 T6 F6 N6 G6 N7 B6 X6 P6 D6
  k_steps
  (rename Fr _ _ _ _ => F6)
  exact hq0 _ _ (BackT.fin (mods := []) hC hG N hg' T6 F6 N7 (by walk_at "modsub") fun h₀' T₀ C₀ G₀ F₀ K₀ => ⟨_, rfl, ret _ _ _ T₀ C₀ G₀ F₀ K₀⟩)
end

/-! text Y3 -/
section
variable {w : World} {A A₀ : Around} {s : Shared} {L : Addr} {h₀ base : Heap} {m mg mb : Str → Option Value} {loose : List Str} {mean : ExcName → Option Value} {env : Env} {outer : List Env} {Q : Value → Shared → Prop} {E : Value → Shared → Prop} {news : List (Addr × Obj)} {x dx rg : Addr} {τ : WT} {wd : Nat} {t : List UInt8}
theorem copied_ok (C : Cx w A A₀ L h₀ base env outer mean mg mb loose 45 150) (F : Fr h₀ L s.heap m) (N : News h₀ L s.heap news) (hx : (x, instObj 159 dx) ∈ news) (hd : (dx, winD w.params τ wd t rg) ∈ news) (hr : (rg, baO (ringW wd t)) ∈ news)
    {d n : Nat} {td tn : Tok} (hw : 1 ≤ wd ∧ wd ≤ 100000) (hok : 1 ≤ d ∧ d ≤ t.length ∧ d ≤ wd) (hn : n ≤ 100000)
    (ret : ∀ h' τ' tt tk, Fr h₀ L h' m → Kept s.heap h' [dx, rg] → h'.get? dx = some (winD w.params τ' wd (lz t d n) rg) → h'.get? rg = some (baO (ringW wd (lz t d n))) → Q (.bytes ((lz t d n).drop t.length).toArray tt) { s with heap := h', toks := tk }) :
    wpC (model PySem.Challenge.rw_tg0040_01.row.prog w) A (call (.ref 410) [.ref x, .int (d : Int) td, .int (n : Int) tn]) Q s := by
  replace N := News.three N hx hd hr
  clear hx hd hr
  walk_at "start"
  refine c_call ?_
  k_dflt walk_at "enterC"
  refine c_fold ?_
  intro q0 hq0
  refine c_cons (c_Try (c_cons (c_Return (c_CallAttr ?_))))
  k_steps
  walk_at "cWith"
  have N2 := N'
  refine copy_win (C'.mono (by omega) (by omega)) F' N' (by walk_at "mem") (by walk_at "mem") (by walk_at "mem") hw hok hn fun h2 τ2 tt tk2 F2 K2 e1 e2 => ?_
  replace N2 := News.put2 N' K2 (by k_updF) e1 (by k_updF) e2
  (try dsimp only at N2)
  exact hq0 _ _ (BackW.fin (mods := [dx, rg]) F2 N N2 hg' (by walk_at "modsub") fun F K => ⟨_, rfl, ret _ _ _ _ F K e1 e2⟩)
end

/-! text Y4 -/
section
variable {M : Model} {A : Around} {s : Shared} {env : Env}
theorem c_isAnd {x y pos whole} {Q : Bool → Shared → Prop} (h : wpC M A (isTrue x env (eval x env)) (fun b s₁ => if b then wpC M A (isTrue y env (eval y env)) Q s₁ else Q false s₁) s) :
    wpC M A (isTrue (.BoolOp .And [x, y] pos) env whole) Q s := by
  show wpC M A (allTrue .And [x, y] env) Q s
  unfold allTrue
  refine c_bind (c_mono h fun b s₁ h₁ => ?_)
  cases b with
  | false => exact c_pure h₁
  | true =>
    simp only [if_true] at h₁
    show wpC M A (allTrue .And [y] env) Q s₁
    unfold allTrue
    refine c_bind (c_mono h₁ fun b s₂ h₂ => ?_)
    cases b with
    | false => exact c_pure h₂
    | true =>
      show wpC M A (allTrue .And [] env) Q s₂
      unfold allTrue
      exact c_pure h₂
end
theorem clip3 (n : Nat) : clipAt n (-3) = n - 3 := by
  unfold clipAt
  rw [if_pos (by decide)]
  match n with
  | 0 => rfl
  | 1 => rfl
  | 2 => rfl
  | k + 3 =>
    rw [show ((-3 : Int) + ((k + 3 : Nat) : Int)) = (k : Int) from by rw [Int.natCast_add, Int.add_comm, Int.add_assoc]; exact Int.add_zero _, Int.min_eq_left (Int.ofNat_le.mpr (Nat.le_add_right k 3)), Int.max_eq_right (Int.natCast_nonneg k), Int.toNat_natCast, Nat.add_sub_cancel]
theorem cutB_neg3 (l : List UInt8) : cutB l (some (-3)) none = l.drop (l.length - 3) := by
  unfold cutB
  simp only [Option.elim]
  rw [clip3]
  exact List.take_of_length_le (Nat.le_of_eq List.length_drop)
theorem neg1_toNat (k : Nat) : ((-1 : Int) + (k : Int)).toNat = k - 1 := by
  cases k with
  | zero => rfl
  | succ k => rw [Int.natCast_add, Int.add_comm, Int.add_assoc]; exact Int.toNat_natCast k
theorem last_ix {n w : Nat} (h1 : 1 ≤ n) (hw : 1 ≤ w) : n - w + (min n w - 1) = n - 1 := by
  rcases Nat.le_total n w with h | h
  · rw [Nat.min_eq_left h, Nat.sub_eq_zero_of_le h, Nat.zero_add]
  · rw [Nat.min_eq_right h, ← Nat.add_sub_assoc hw, Nat.sub_add_cancel h]
theorem first_ix (n w : Nat) : n - min n w = n - w := by
  rcases Nat.le_total n w with h | h
  · rw [Nat.min_eq_left h, Nat.sub_self, Nat.sub_eq_zero_of_le h]
  · rw [Nat.min_eq_right h]
theorem last_len (t : List UInt8) (w : Nat) : (t.drop (t.length - w)).length = min t.length w := by
  rw [List.length_drop]
  rcases Nat.le_total t.length w with h | h
  · rw [Nat.min_eq_left h, Nat.sub_eq_zero_of_le h]; rfl
  · rw [Nat.min_eq_right h, Nat.sub_sub_self h]
theorem held_at1 {t H : List UInt8} {w : Nat} (hH : t.drop (t.length - w) = H) (h1 : 1 ≤ t.length) (hw : 1 ≤ w) : t.getD (t.length - (1 : Int).toNat) 0 = H.getD ((-1 : Int) + H.length).toNat 0 := by
  rw [neg1_toNat, ← hH, last_len, List.getD_eq_getElem?_getD, List.getD_eq_getElem?_getD, List.getElem?_drop, last_ix h1 hw]
  rfl
theorem held_at0 {t H : List UInt8} {w : Nat} (hH : t.drop (t.length - w) = H) : t.getD (t.length - (H.length : Int).toNat) 0 = H.getD (0 : Int).toNat 0 := by
  rw [Int.toNat_natCast, ← hH, last_len, first_ix, List.getD_eq_getElem?_getD, List.getD_eq_getElem?_getD, List.getElem?_drop]
  rfl
theorem cutB_held (l : List UInt8) (w e : Nat) (he : e ≤ l.length) : cutB l (some (if (e : Int) - w > 0 then (e : Int) - w else 0)) (some (e : Int)) = (l.take e).drop ((l.take e).length - w) := by
  rw [show (if (e : Int) - w > 0 then (e : Int) - w else 0) = ((e - w : Nat) : Int) from by split <;> omega, cutB_both, List.length_take, Nat.min_eq_left he]
section
variable {w : World} {A A₀ : Around} {s : Shared} {L : Addr} {h₀ base : Heap} {m mg mb : Str → Option Value} {loose : List Str} {mean : ExcName → Option Value} {env : Env} {outer : List Env} {Q : Value → Shared → Prop} {E : Value → Shared → Prop} {news : List (Addr × Obj)} {x dx rg : Addr} {τ : WT} {wd : Nat} {t : List UInt8}
theorem octetsH (C : Cx w A A₀ L h₀ base env outer mean mg mb loose 25 90) (F : Fr h₀ L s.heap m) (N : News h₀ L s.heap news) (hx : (x, instObj 159 dx) ∈ news) (hd : (dx, winD w.params τ wd t rg) ∈ news) (hr : (rg, baO (ringW wd t)) ∈ news)
    (hw : 1 ≤ wd ∧ wd ≤ 100000) {H : List UInt8} (hH : t.drop (t.length - wd) = H)
    (ret : ∀ h' tt tk, Fr h₀ L h' m → Kept s.heap h' [] → Q (.bytes H.toArray tt) { s with heap := h', toks := tk }) :
    wpAny (model PySem.Challenge.rw_tg0040_01.row.prog w) A (call (.ref 149) [.ref x]) Q E s := by
  subst hH; exact octets_win C F N hx hd hr hw ret
theorem newestH (C : Cx w A A₀ L h₀ base env outer mean mg mb loose 35 120) (F : Fr h₀ L s.heap m) (N : News h₀ L s.heap news) (hx : (x, instObj 159 dx) ∈ news) (hd : (dx, winD w.params τ wd t rg) ∈ news) (hr : (rg, baO (ringW wd t)) ∈ news)
    (hw : 1 ≤ wd ∧ wd ≤ 100000) {H : List UInt8} {tc : Tok} (hH : t.drop (t.length - wd) = H)
    (ret : ∀ h' tt tk, Fr h₀ L h' m → Kept s.heap h' [] → Q (.bytes (cutB H (some (-3)) none).toArray tt) { s with heap := h', toks := tk }) :
    wpAny (model PySem.Challenge.rw_tg0040_01.row.prog w) A (call (.ref 156) [.ref x, .int 3 tc]) Q E s := by
  subst hH; rw [cutB_neg3] at ret; exact newest_win (c := 3) C F N hx hd hr hw (by decide) ret
theorem neL2 {prog : Program} {a b : Addr} {p q r u : Int} {t1 t2 t3 t4 : Tok} {n1 n2 : Nat} {Q : Value → Shared → Prop} (N : News h₀ L s.heap news) (h1 : (a, listOf #[.int p t1, .int q t2] n1) ∈ news) (h2 : (b, listOf #[.int r t3, .int u t4] n2) ∈ news) (e1 : p = r) (e2 : q = u) (hu : A.units + 64 < cLine)
    (hq : Q (.bool false) s) : wpAny (model prog w) A (compareOp .NotEq (.ref a) (.ref b)) Q E s := by
  subst e1 e2
  refine ne_intsK (vs := [.int p t1, .int q t2]) (us := [.int p t3, .int q t4]) (ns := [p, q]) (ms := [p, q]) ⟨_, (N _ h1).1, rfl, _, rfl⟩ (.cons _ _ (.cons _ _ .nil)) ⟨_, (N _ h2).1, rfl, _, rfl⟩ (.cons _ _ (.cons _ _ .nil)) hu ?_
  simpa using hq
theorem neI_same {a b : Int} {t u : Tok} {prog : Program} {Q : Value → Shared → Prop} (h : a = b) (q : Q (.bool false) s) : wpAny (model prog w) A (compareOp .NotEq (.int a t) (.int b u)) Q E s := by
  subst h; exact ne_int (by simpa using q)
theorem neB_same {r : List UInt8} {t u : Tok} {prog : Program} {Q : Value → Shared → Prop} (q : Q (.bool false) s) : wpAny (model prog w) A (compareOp .NotEq (.bytes r.toArray t) (.bytes r.toArray u)) Q E s := neB (by simpa using q)
end
theorem ln_Y4_1 : True := by
  k_with "call ref" => (k_here; (with_reducible show wpAny _ _ (call (Value.ref 149) _) _ _ _); k_dflt ((rename Fr _ _ _ _ => F'); (rename News _ _ _ _ => N'); (refine octetsH (C'.mono (by omega) (by omega)) F' N' (by walk_at "mem") (by walk_at "mem") (by walk_at "mem") ?z hH ?_; (case z => omega)); intro h' tt' tk' F' K'; (replace N' := Kept.news K' N' (fun _ h => h) (fun _ _ h => nomatch h)); (try dsimp only at N')))
  k_with "call ref" => (k_here; (with_reducible show wpAny _ _ (call (Value.ref 156) _) _ _ _); k_dflt ((rename Fr _ _ _ _ => F'); (rename News _ _ _ _ => N'); (refine newestH (C'.mono (by omega) (by omega)) F' N' (by walk_at "mem") (by walk_at "mem") (by walk_at "mem") ?z hH ?_; (case z => omega)); intro h' tt' tk' F' K'; (replace N' := Kept.news K' N' (fun _ h => h) (fun _ _ h => nomatch h)); (try dsimp only at N')))
  k_with "compareOp NotEq bytes bytes" => (k_here; (with_reducible refine neB_same ?_); (try dsimp only))
  k_with "compareOp NotEq int int" => (k_here; (with_reducible refine neI_same ?z ?_; (case z => omega)); (try dsimp only))
  k_with "compareOp NotEq ref ref" => (k_here; k_dflt ((rename News _ _ _ _ => N'); (refine neL2 N' (by walk_at "mem") (by walk_at "mem") ?he1 ?he2 ?hun ?_; (case he1 => first | assumption | omega); (case he2 => first | assumption | omega); (case hun => have := C'.hu; omega)); (try dsimp only)))
  trivial
section
variable {w : World} {A A₀ : Around} {s : Shared} {L : Addr} {h₀ base : Heap} {m mg mb : Str → Option Value} {loose : List Str} {mean : ExcName → Option Value} {env : Env} {outer : List Env} {Q : Value → Shared → Prop} {E : Value → Shared → Prop} {news : List (Addr × Obj)} {x dx rg : Addr} {τ : WT} {wd : Nat} {t : List UInt8}
theorem held_ok (C : Cx w A A₀ L h₀ base env outer mean mg mb loose 55 180) (G : Gx w base h₀ outer mean mg mb loose) (F : Fr h₀ L s.heap m) (N : News h₀ L s.heap news) (hx : (x, instObj 159 dx) ∈ news) (hd : (dx, winD w.params τ wd t rg) ∈ news) (hr : (rg, baO (ringW wd t)) ∈ news)
    {W : List UInt8} {e : Nat} {tW te tw : Tok} (hw : 1 ≤ wd ∧ wd ≤ 100000) (ht : t = W.take e) (he : 1 ≤ e ∧ e ≤ W.length) (hW : W.length ≤ 100000)
    (ret : ∀ h₀' h' tk, KtsTurn (fsOf outer) h₀ h₀' → (∀ {k u}, Cx w A A₀ L h₀ base env outer mean mg mb loose k u → Cx w A A₀ L h₀' base env outer mean mg mb loose k u) → Gx w base h₀' outer mean mg mb loose → Fr h₀' L h' m → KeptT L outer s.heap h' [] → Q (.bool true) { s with heap := h', toks := tk }) :
    wpC (model PySem.Challenge.rw_tg0040_01.row.prog w) A (call (.ref 417) [.ref x, .bytes W.toArray tW, .int (e : Int) te, .int (wd : Int) tw]) Q s := by
  replace N := News.three N hx hd hr
  clear hx hd hr
  have hlen := ringW_length hw.1 t
  have htl : t.length = e := by rw [ht, List.length_take]; omega
  have hC := C
  have hG := G
  walk_at "startT"
  refine c_call ?_
  k_dflt walk_at "enterT"
  refine c_fold ?_
  intro q0 hq0
  walk_at "nm"
  walk_at "cStmt"
  (rename Fr _ _ _ _ => F'); (rename News _ _ _ _ => N')
  have eH := cutB_held W wd e he.2
  rw [← ht] at eH
  rw [eH] at F'
  have hhl : (t.drop (t.length - wd)).length = min t.length wd := by rw [List.length_drop]; omega
  generalize hH : t.drop (t.length - wd) = H at F' hhl
  obtain ⟨tH, F'⟩ : ∃ tH, Fr g' L' _ (fun y => if y = Str.ofString "held" then some (.bytes H.toArray tH) else mp [(Str.ofString "width", .int (wd : Int) tw), (Str.ofString "end", .int (e : Int) te), (Str.ofString "whole", .bytes W.toArray tW), (Str.ofString "ring", .ref x)] y) := ⟨_, F'⟩
  walk_at "nm"
  refine c_cons (c_For ?_)
  k_steps
  (rename Fr _ _ _ _ => F'); (rename News _ _ _ _ => N'); (rename IsRange _ _ _ _ _ _ _ _ => hR)
  have hGd : KtsTurn (fsOf (env :: outer)) g' g' := KtsTurn.refl
  obtain ⟨J1, J1i, J1e⟩ := exJ (fun (i : Nat) (m' : Str → Option Value) (nx : List (Addr × Obj)) (G : Prop) => ∀ u, m' = (fun y => if y = Str.ofString "turn" then u else if y = Str.ofString "held" then some (.bytes H.toArray tH) else mp [(Str.ofString "width", .int (wd : Int) tw), (Str.ofString "end", .int (e : Int) te), (Str.ofString "whole", .bytes W.toArray tW), (Str.ofString "ring", .ref x)] y) → nx = [(x, instObj 159 dx), (dx, winD w.params τ wd t rg), (rg, baO (ringW wd t))] → G)
  refine c_forRangeT (n := 2) (fun g => KtsTurn (fsOf (env :: outer)) g' g ∧ Cx w _ _ L' g base _ (env :: outer) mean mg mb loose _ _ ∧ Gx w base g (env :: outer) mean mg mb loose) J1 hh hR rfl (by decide) ⟨KtsTurn.refl, C', XB, TB, D'⟩ F' N' (J1i _ _ _ fun G k => k none (by walk_at "mpU") rfl) ?_ ?_
  all_goals (clear C' X' T' B' D' hGd F' N')
  · intro i ti g₁ m₁ nx h' tk' I oI hi hZ1 hJ1 off F' N'
    obtain ⟨T₁, C', G'⟩ := hZ1
    refine c_foldA ?_
    intro q1 hq1
    refine J1e _ _ _ _ hJ1 ?_
    clear hJ1
    rintro u rfl rfl
    have T' := C'.T
    have B' := C'.B
    have X' := C'.X
    revert X'; k_fill; intro X'
    have hat1 : ((t.getD (t.length - (1 : Int).toNat) 0).toNat : Int) = (H.getD ((-1 : Int) + H.length).toNat 0).toNat := by rw [held_at1 hH (by omega) hw.1]
    have hat2 : ((t.getD (t.length - (H.length : Int).toNat) 0).toNat : Int) = (H.getD (0 : Int).toNat 0).toNat := by rw [held_at0 hH]
    k_steps
    walk_at "nm"
    walk_at "cStmt"
    walk_at "nm"
    walk_at "cStmt"
    rcases (by omega : i = 0 ∨ i = 1) with rfl | rfl
    · refine c_cons (c_IfC (c_isAnd (c_any ?_)))
      k_steps
      refine c_isCompare (c_CallName ?_)
      k_steps
      walk_at "cWith"
      (rename Fr _ _ _ _ => F'); (rename News _ _ _ _ => N')
      refine copied_bad (C'.mono (by omega) (by omega)) G' F' N' (by walk_at "mem") (by walk_at "mem") (by walk_at "mem") hw ?_ fun g₂ h₂ tk₂ T₂ C₂ G₂ F₂ K₂ => ?_
      · omega
      replace N' := News.turn C'.B N' K₂ T₂ (rest := [(I, oI), (x, instObj 159 dx), (dx, winD w.params τ wd t rg), (rg, baO (ringW wd t))]) (by walk_at "subs") (fun _ _ => List.not_mem_nil)
      replace C' := C₂ C'
      clear T' B' X' K' K₂
      have T' := C'.T
      have B' := C'.B
      have X' := C'.X
      revert X'; k_fill; intro X'
      k_steps
      refine c_nil ?_
      try dsimp only
      refine c_nil ?_
      exact hq1 _ _ (LoopPostX.next1 [(x, instObj 159 dx), (dx, winD w.params τ wd t rg), (rg, baO (ringW wd t))] ⟨T₁.trans T₂, C', G₂⟩ F₂ N' (by walk_at "subs") (by walk_at "offs") (J1i _ _ _ fun G k => k _ (upd_same _ _ _ _) rfl))
    · walk_at "cStmt"
      walk_at "nm"
      walk_at "cStmt"
      (rename Fr _ _ _ _ => F'); (rename News _ _ _ _ => N')
      exact hq1 _ _ (LoopPostX.next1 [(x, instObj 159 dx), (dx, winD w.params τ wd t rg), (rg, baO (ringW wd t))] ⟨T₁, C', G'⟩ F' N' (by walk_at "subs") (by walk_at "offs") (J1i _ _ _ fun G k => k _ (upd_same _ _ _ _) rfl))
  · intro g₁ m₁ nx h' tk' hZ1 hJ1 F' N'
    obtain ⟨T₁, C', G'⟩ := hZ1
    refine J1e _ _ _ _ hJ1 ?_
    clear hJ1
    rintro u rfl rfl
    have T' := C'.T
    have B' := C'.B
    have X' := C'.X
    revert X'; k_fill; intro X'
    have bad : BadMark := ⟨⟩
    walk_at "nm"
    refine c_consA ?_
    k_steps
    refine caught_SO0 (C := 52) R3 G3.fr B' U3 XB TB G'.D KtsTurn.refl (by k_dflt k_is) (kts52 _) ?_
    intro h6 g6 n6 T6 F6 N6 G6 N7 B6 X6 P6 D6
    k_steps
    (rename Fr _ _ _ _ => F6)
    exact hq0 _ _ (BackT.fin (mods := []) hC hG N hg' (T₁.trans T6) F6 N7 (by walk_at "modsub") fun h₀' T₀ C₀ G₀ F₀ K₀ => ⟨_, rfl, ret _ _ _ T₀ C₀ G₀ F₀ K₀⟩)
end

/-! text Z0 -/
section
variable {prog : Program} {w : World} {A : Around} {s : Shared} {env : Env} {target : PySem.Expr} {body : List Stmt} {R : Flow → Shared → Prop} {g : Heap} {L : Addr} {m : Str → Option Value} {news : List (Addr × Obj)}
theorem iter_list {I l : Addr} {ol : Obj} {vs : List Value} {nn : Nat} (hh : A.handled = none) (hne : l ≠ I) (hc : ol.cls = .type "list") (hd : ol.data = .seq vs.toArray nn) :
    Iter prog w A target I [I] [(l, ol)] vs.length (fun i v _ => vs[i]? = some v) (fun i h => h.IsListIter I l i ∧ h.get? l = some ol) := by
  have W := Walks.list (prog := prog) (w := w) hh I l hne vs.toArray
  have toL : ∀ {h : Heap}, h.get? l = some ol → h.IsList l vs.toArray := fun e => ⟨_, e, hc, nn, hd⟩
  refine ⟨fun i h h' st k1 k2 => ⟨st.1.at fun o e => k1 I (by simp) o e, k2 _ (.head _) st.2⟩, fun i h st b hb => ?_, fun i s Q hi st hQ => ?_, fun s Q st hQ => ?_⟩
  · obtain ⟨⟨o, ho, _⟩, _⟩ := st
    rw [List.mem_singleton.mp hb]; exact ⟨o, ho⟩
  · refine W.item i s _ _ (by simpa using hi) ⟨st.1, toL st.2⟩ fun v h' tk hv st' hk => ⟨v, rfl, ?_⟩
    obtain ⟨⟨o, ho, ho2, _⟩, _⟩ := id st'
    exact letGo_none ho ho2 (by decide) (hQ v h' tk (by simpa using hv) ⟨st'.1, hk _ _ (by simpa using hne) st.2⟩ hk)
  · exact W.done s _ _ ⟨by simpa using st.1, toL st.2⟩ fun h' tk hk => ⟨rfl, hQ h' tk hk⟩
theorem c_forListX {l : Addr} {ol : Obj} {vs : List Value} {nn : Nat} (Gd : Heap → Prop) (J : Nat → (Str → Option Value) → List (Addr × Obj) → Prop) (hh : A.handled = none) (hG : Gd g) (F : Fr g L s.heap m) (N : News g L s.heap news)
    (hc : ol.cls = .type "list") (hd : ol.data = .seq vs.toArray nn) (hkp : ∀ i g₁ m nx h, Gd g₁ → J i m nx → Fr g₁ L h m → News g₁ L h nx → h.get? l = some ol) (h0 : J 0 m news)
    (turn : ∀ i v g₁ m₁ nx h tk I oI, i < vs.length → vs[i]? = some v → Gd g₁ → J i m₁ nx → (∀ p ∈ nx, p.1 ≠ I) → Fr g₁ L h m₁ → News g₁ L h ((I, oI) :: nx) →
      wpAny (model prog w) A (assign target env v) (fun _ s₂ => wpC (model prog w) A (execs body env) (LoopPostX Gd L J (i + 1) [(I, oI)] R s) s₂) nE { s with heap := h, toks := tk })
    (done : ∀ g₁ m₁ nx h tk, Gd g₁ → J vs.length m₁ nx → Fr g₁ L h m₁ → News g₁ L h nx → R .next { s with heap := h, toks := tk }) :
    wpAny (model prog w) A (pyIter (.ref l)) (fun it s₂ => codeC (model prog w) A (.forLoop target it body [] env) R s₂) nE s := by
  have hol := hkp _ _ _ _ _ hG h0 F N
  have hls : s.heap.IsList l vs.toArray := ⟨_, hol, hc, nn, hd⟩
  have hne : l ≠ s.heap.objs.size := Nat.ne_of_lt (Heap.lt_size hol)
  refine wpAny_pyIter_list hls ?_
  exact c_for1 Gd J (iter_list (I := s.heap.objs.size) hh hne hc hd) (fun i g₁ m nx h a b c d p hp => by rw [List.mem_singleton.mp hp]; exact hkp i g₁ m nx h a b c d)
    ⟨⟨_, Heap.get?_push_size _ rfl, rfl, rfl⟩, Heap.get?_push_of_some _ hol⟩ hG F N h0 turn done
end
/-- a list of pairs of ints, in the heap -/
def PairsAt (h : Heap) : List Addr → List (Nat × Nat) → Prop
  | a :: as, p :: ps => (∃ t u, IsTup h a #[.int (p.1 : Int) t, .int (p.2 : Int) u]) ∧ PairsAt h as ps
  | [], [] => True
  | _, _ => False
structure StepsAt (h : Heap) (a : Addr) (as : List Addr) (ps : List (Nat × Nat)) : Prop where
  l : ∃ o n, h.get? a = some o ∧ o.cls = .type "list" ∧ o.data = .seq (as.map Value.ref).toArray n
  p : PairsAt h as ps
theorem PairsAt.keeps {h h' : Heap} (k : ∀ b o, h.get? b = some o → o.cls = .type "tuple" → h'.get? b = some o) : ∀ {as : List Addr} {ps : List (Nat × Nat)}, PairsAt h as ps → PairsAt h' as ps
  | [], [], _ => trivial
  | _ :: _, _ :: _, ⟨⟨t, u, o, ho, hc, hd⟩, r⟩ => ⟨⟨t, u, o, k _ _ ho hc, hc, hd⟩, PairsAt.keeps k r⟩
theorem PairsAt.length {h : Heap} : ∀ {as : List Addr} {ps : List (Nat × Nat)}, PairsAt h as ps → as.length = ps.length
  | [], [], _ => rfl
  | _ :: _, _ :: _, ⟨_, r⟩ => by rw [List.length_cons, List.length_cons, PairsAt.length r]
theorem PairsAt.get {h : Heap} : ∀ {as : List Addr} {ps : List (Nat × Nat)} {i : Nat} {v : Value}, PairsAt h as ps → (as.map Value.ref)[i]? = some v → ∃ a p t u, v = .ref a ∧ ps[i]? = some p ∧ IsTup h a #[.int (p.1 : Int) t, .int (p.2 : Int) u]
  | _ :: _, _ :: _, 0, _, ⟨⟨t, u, ht⟩, _⟩, e => by cases e; exact ⟨_, _, t, u, rfl, rfl, ht⟩
  | _ :: _, _ :: _, i + 1, _, ⟨_, r⟩, e => PairsAt.get (i := i) r e
theorem StepsAt.keeps {h h' : Heap} {a : Addr} {as : List Addr} {ps : List (Nat × Nat)} (S : StepsAt h a as ps) (k : ∀ b o, h.get? b = some o → (o.cls = .type "tuple" ∨ o.cls = .type "list") → h'.get? b = some o) : StepsAt h' a as ps :=
  ⟨let ⟨o, n, ho, hc, hd⟩ := S.l; ⟨o, n, k _ _ ho (.inr hc), hc, hd⟩, S.p.keeps fun b o e hc => k b o e (.inl hc)⟩

/-! text Z1 -/
/-- a step that the parse lets pass -/
def StepOk (p : Nat × Nat) : Prop := (p.1 = 0 ∧ p.2 < 256) ∨ (2 ≤ p.1 ∧ p.1 ≤ 1000 ∧ 1 ≤ p.2 ∧ p.2 ≤ 100000)
section
variable {w : World} {A A₀ : Around} {s : Shared} {L : Addr} {h₀ base : Heap} {m mg mb : Str → Option Value} {loose : List Str} {mean : ExcName → Option Value} {env : Env} {outer : List Env} {Q : Value → Shared → Prop} {E : Value → Shared → Prop} {news : List (Addr × Obj)} {a : Addr} {as : List Addr} {ps : List (Nat × Nat)}
theorem check_ok (C : Cx w A A₀ L h₀ base env outer mean mg mb loose 25 90) (F : Fr h₀ L s.heap m) (S : StepsAt s.heap a as ps) (hv : ∀ p ∈ ps, StepOk p)
    (ret : ∀ h' tk, Fr h₀ L h' m → Kept s.heap h' [] → Q .none { s with heap := h', toks := tk }) :
    wpC (model PySem.Challenge.rw_tg0040_01.row.prog w) A (call (.ref 281) [.ref a]) Q s := by
  have N : News h₀ L s.heap [] := News.nil
  walk_at "start"
  refine c_call ?_
  k_dflt walk_at "enterC"
  refine c_fold ?_
  intro q0 hq0
  have S' : StepsAt g' a as ps := S.keeps fun b o e _ => hg' b o e List.not_mem_nil
  obtain ⟨⟨ol, nn, hol, hc, hd⟩, hps⟩ := S'
  replace F' : Fr g' L' h' (mp [(Str.ofString "steps", .ref a)]) := F'
  walk_at "nm"
  refine c_cons (c_For ?_)
  k_steps
  obtain ⟨J1, J1i, J1e⟩ := exJ (fun (i : Nat) (m' : Str → Option Value) (nx : List (Addr × Obj)) (G : Prop) => ∀ u1 u2, m' = (fun y => if y = Str.ofString "second" then u2 else if y = Str.ofString "first" then u1 else mp [(Str.ofString "steps", .ref a)] y) → nx = [] → G)
  refine c_forListX (· = g') J1 hh rfl F' N' hc hd (fun i g₁ m nx h e _ F _ => by subst e; exact F.keep _ _ hol) (J1i _ _ _ fun G k => k none none (by walk_at "mpU") rfl) ?_ ?_
  · rintro i v g₁ m₁ nx h₁ tk₁ I oI hi hv1 rfl hJ1 off F' N'
    refine c_foldA ?_
    intro q1 hq1
    refine J1e _ _ _ _ hJ1 ?_
    clear hJ1
    rintro u1 u2 rfl rfl
    obtain ⟨b, p, t1, t2, rfl, hp, hT⟩ := hps.get hv1
    have hok := hv p (List.mem_of_getElem? hp)
    rcases hok with ⟨hk1, hk2⟩ | ⟨hk1, hk2, hk3, hk4⟩
    all_goals
      k_steps
      repeat' (walk_at "cStmt")
      all_goals (try (exfalso; omega))
      (rename Fr _ _ _ _ => F'); (rename News _ _ _ _ => N')
      exact hq1 _ _ (LoopPostX.next1 [] rfl F' N' (by walk_at "subs") (by walk_at "offs") (J1i _ _ _ fun G k => k _ _ (by walk_at "mpU") rfl))
  · rintro g₁ m₁ nx h₁ tk₁ rfl hJ1 F' N'
    refine J1e _ _ _ _ hJ1 ?_
    clear hJ1
    rintro u1 u2 rfl rfl
    walk_at "nm"
    refine c_cons (c_For ?_)
    k_steps
    obtain ⟨J2, J2i, J2e⟩ := exJ (fun (i : Nat) (m' : Str → Option Value) (nx : List (Addr × Obj)) (G : Prop) => ∀ u1 u2, m' = (fun y => if y = Str.ofString "second" then u2 else if y = Str.ofString "first" then u1 else mp [(Str.ofString "steps", .ref a)] y) → nx = [] → G)
    refine c_forListX (· = g₁) J2 hh rfl F' N' hc hd (fun i g₁ m nx h e _ F _ => by subst e; exact F.keep _ _ hol) (J2i _ _ _ fun G k => k u1 u2 (by walk_at "mpU") rfl) ?_ ?_
    · rintro i v g₂ m₁ nx h₁ tk₁ I oI hi hv1 rfl hJ2 off F' N'
      refine c_foldA ?_
      intro q2 hq2
      refine J2e _ _ _ _ hJ2 ?_
      clear hJ2
      rintro u1 u2 rfl rfl
      obtain ⟨b, p, t1, t2, rfl, hp, hT⟩ := hps.get hv1
      have hok := hv p (List.mem_of_getElem? hp)
      rcases hok with ⟨hk1, hk2⟩ | ⟨hk1, hk2, hk3, hk4⟩
      all_goals
        k_steps
        repeat' (walk_at "cStmt")
        all_goals (try (exfalso; omega))
        (rename Fr _ _ _ _ => F'); (rename News _ _ _ _ => N')
        exact hq2 _ _ (LoopPostX.next1 [] rfl F' N' (by walk_at "subs") (by walk_at "offs") (J2i _ _ _ fun G k => k _ _ (by walk_at "mpU") rfl))
    · rintro g₁ m₁ nx h₁ tk₁ rfl hJ2 F' N'
      refine J2e _ _ _ _ hJ2 ?_
      clear hJ2
      rintro u1 u2 rfl rfl
      refine c_nil ?_
      exact hq0 _ _ (BackW.fin (mods := []) F' N N' hg' (by walk_at "modsub") fun F K => ⟨_, rfl, ret _ _ F K⟩)
end

/-! text Z2 -/
/-- what is told behind one more step -/
def tellW (t : List UInt8) (p : Nat × Nat) : List UInt8 := if p.1 = 0 then t ++ [p.2.toUInt8] else lz t p.2 p.1
def ws (t : List UInt8) (ps : List (Nat × Nat)) : List UInt8 := ps.foldl tellW t
/-- the step can be told behind t -/
def StepFit (t : List UInt8) (p : Nat × Nat) : Prop := (p.1 = 0 ∧ p.2 < 256) ∨ (2 ≤ p.1 ∧ p.1 ≤ 9 ∧ 1 ≤ p.2 ∧ p.2 ≤ t.length)
structure Good (t : List UInt8) (ps : List (Nat × Nat)) : Prop where
  fit : ∀ i p, ps[i]? = some p → StepFit (ws t (ps.take i)) p
  len : (ws t ps).length ≤ 10000
  cnt : ps.length ≤ 1000
theorem tellW_length (t : List UInt8) (p : Nat × Nat) : t.length ≤ (tellW t p).length := by
  unfold tellW; split
  · rw [List.length_append]; omega
  · rw [lz_length]; omega
theorem ws_length (ps : List (Nat × Nat)) : ∀ t, t.length ≤ (ws t ps).length := by
  induction ps with
  | nil => intro t; exact Nat.le_refl _
  | cons p ps ih => intro t; exact Nat.le_trans (tellW_length t p) (ih _)
theorem ws_append (t : List UInt8) (as bs : List (Nat × Nat)) : ws t (as ++ bs) = ws (ws t as) bs := List.foldl_append
theorem ws_snoc {t : List UInt8} {ps : List (Nat × Nat)} {i : Nat} {p : Nat × Nat} (h : ps[i]? = some p) : ws t (ps.take (i + 1)) = tellW (ws t (ps.take i)) p := by
  rw [List.take_add_one, h, ws_append]; rfl
theorem Good.take {t : List UInt8} {ps : List (Nat × Nat)} (G : Good t ps) (i : Nat) : (ws t (ps.take i)).length ≤ 10000 := by
  have := ws_length (ps.drop i) (ws t (ps.take i))
  rw [← ws_append, List.take_append_drop] at this
  exact Nat.le_trans this G.len
theorem Good.ok {t : List UInt8} {ps : List (Nat × Nat)} (G : Good t ps) : ∀ p ∈ ps, StepOk p := fun p hp => by
  obtain ⟨i, hi⟩ := List.getElem?_of_mem hp
  have h1 := G.fit i p hi
  have h2 := G.take i
  unfold StepFit at h1; unfold StepOk
  omega
theorem tellW_lit {t : List UInt8} {p : Nat × Nat} (h : p.1 = 0) : tellW t p = t ++ [p.2.toUInt8] := if_pos h
theorem tellW_mat {t : List UInt8} {p : Nat × Nat} (h : p.1 ≠ 0) : tellW t p = lz t p.2 p.1 := if_neg h
section
variable {prog : Program} {w : World} {A : Around} {E : Value → Shared → Prop} {s : Shared} {a b : Int} {t u : Tok} {Q : Value → Shared → Prop}
theorem eqI_tt (h : a = b) (q : Q (.bool true) s) : wpAny (model prog w) A (compareOp .Eq (.int a t) (.int b u)) Q E s := by subst h; exact eq_int (by simpa using q)
theorem eqI_ff (h : a ≠ b) (q : Q (.bool false) s) : wpAny (model prog w) A (compareOp .Eq (.int a t) (.int b u)) Q E s := eq_int (by rw [beq_eq_false_iff_ne.mpr h]; exact q)
theorem neI_ff (h : a = b) (q : Q (.bool false) s) : wpAny (model prog w) A (compareOp .NotEq (.int a t) (.int b u)) Q E s := by subst h; exact ne_int (by simpa using q)
theorem neI_tt (h : a ≠ b) (q : Q (.bool true) s) : wpAny (model prog w) A (compareOp .NotEq (.int a t) (.int b u)) Q E s := ne_int (by rw [bne_iff_ne.mpr h]; exact q)
end
theorem ln_Z2_1 : True := by
  k_with "compareOp Eq int int" => (k_here; first | (with_reducible refine eqI_tt ?z ?_; (case z => omega); (try dsimp only)) | (with_reducible refine eqI_ff ?z ?_; (case z => omega); (try dsimp only)) | fail "eqI")
  k_with "compareOp NotEq int int" => (k_here; first | (with_reducible refine neI_tt ?z ?_; (case z => omega); (try dsimp only)) | (with_reducible refine neI_ff ?z ?_; (case z => omega); (try dsimp only)) | fail "neI")
  k_with "cNewBA" => ((try dsimp only); (rename Fr _ _ _ _ => F'); (rename News _ _ _ _ => N'); (refine new_baN (v := some (List.toArray _, _)) F' N' (fun p hp => ?_) ?_; (case refine_1 => (rw [← Option.some.inj hp, List.size_toArray, sizeLine_eq]; omega))); intro D' h' F' N' l1; (try k_lt l1); (try dsimp only [baL] at N' ⊢))
  trivial
section
variable {w : World} {A A₀ : Around} {s : Shared} {L : Addr} {h₀ base : Heap} {m mg mb : Str → Option Value} {loose : List Str} {mean : ExcName → Option Value} {env : Env} {outer : List Env} {Q : Value → Shared → Prop} {E : Value → Shared → Prop} {news : List (Addr × Obj)} {a : Addr} {as : List Addr} {ps : List (Nat × Nat)}
theorem unparse_ok (C : Cx w A A₀ L h₀ base env outer mean mg mb loose 35 120) (F : Fr h₀ L s.heap m) (S : StepsAt s.heap a as ps) {t : List UInt8} {tt : Tok} (G : Good t ps)
    (ret : ∀ h' tr tk, Fr h₀ L h' m → Kept s.heap h' [] → Q (.bytes ((ws t ps).drop t.length).toArray tr) { s with heap := h', toks := tk }) :
    wpC (model PySem.Challenge.rw_tg0040_01.row.prog w) A (call (.ref 289) [.ref a, .bytes t.toArray tt]) Q s := by
  have N : News h₀ L s.heap [] := News.nil
  have hlen := ws_length ps t
  have hlen2 := G.len
  walk_at "start"
  refine c_call ?_
  k_dflt walk_at "enterC"
  refine c_fold ?_
  intro q0 hq0
  have S' : StepsAt g' a as ps := S.keeps fun b o e _ => hg' b o e List.not_mem_nil
  walk_at "nm"
  refine c_cons (c_Expr (c_CallName ?_))
  k_steps
  walk_at "cWith"
  (rename Fr _ _ _ _ => F')
  refine check_ok (C'.mono (by omega) (by omega)) F' (S'.keeps fun b o e _ => F'.keep b o e) G.ok fun h2 tk2 F2 K2 => ?_
  have N2 : News g' L' h2 [] := News.nil
  try dsimp only
  walk_at "nm"
  refine c_cons (c_AssignName (c_CallName ?_))
  k_steps
  walk_at "cWith"
  walk_at "cNewBA"
  k_steps
  obtain ⟨⟨ol, nn, hol, hc, hd⟩, hps⟩ := S'
  walk_at "nm"
  refine c_cons (c_For ?_)
  k_steps
  (rename Fr _ _ _ _ => F'); (rename News _ _ _ _ => N')
  replace F' : Fr g' L' _ (fun y => if y = Str.ofString "made" then some (.ref D') else mp [(Str.ofString "history", .bytes t.toArray tt), (Str.ofString "steps", .ref a)] y) := F'
  obtain ⟨J1, J1i, J1e⟩ := exJ (fun (i : Nat) (m' : Str → Option Value) (nx : List (Addr × Obj)) (G : Prop) => ∀ u1 u2 u3, m' = (fun y => if y = Str.ofString "second" then u2 else if y = Str.ofString "first" then u1 else if y = Str.ofString "turn" then u3 else if y = Str.ofString "made" then some (.ref D') else mp [(Str.ofString "history", .bytes t.toArray tt), (Str.ofString "steps", .ref a)] y) → nx = [(D', baO (ws t (ps.take i)))] → G)
  refine c_forListX (· = g') J1 hh rfl F' N' hc hd (fun i g₁ m nx h e _ F _ => by subst e; exact F.keep _ _ hol) (J1i _ _ _ fun G k => k none none none (by walk_at "mpU") rfl) ?_ ?_
  · rintro i v g₁ m₁ nx h₁ tk₁ I oI hi hv1 rfl hJ1 off F' N'
    refine c_foldA ?_
    intro q1 hq1
    refine J1e _ _ _ _ hJ1 ?_
    clear hJ1
    rintro u1 u2 u3 rfl rfl
    obtain ⟨b, p, t1, t2, rfl, hp, hT⟩ := hps.get hv1
    have hfit := G.fit _ _ hp
    have htl := G.take i
    have hws := ws_snoc (t := t) hp
    rcases hfit with ⟨hk1, hk2⟩ | ⟨hk1, hk2, hk3, hk4⟩
    · k_steps
      walk_at "nm"
      refine c_cons (c_If ?_)
      k_steps
      walk_at "nm"
      walk_at "cMeth"
      walk_at "cWith"
      walk_at "cApp"
      walk_at "nm"
      walk_at "cStmt"
      rw [show (p.2 : Int).toNat.toUInt8 = p.2.toUInt8 from rfl, ← tellW_lit hk1, ← hws] at N'
      exact hq1 _ _ (LoopPostX.cont1 [(D', baO (ws t (ps.take (i + 1))))] rfl F' N' (by walk_at "subs") (by walk_at "offs") (J1i _ _ _ fun G k => k (some (.int (p.1 : Int) t1)) (some (.int (p.2 : Int) t2)) u3 (by walk_at "mpU") rfl))
    · k_steps
      walk_at "nm"
      walk_at "cStmt"
      walk_at "nm"
      walk_at "cStmt"
      walk_at "nm"
      refine c_cons (c_For ?_)
      k_steps
      (rename Fr _ _ _ _ => F'); (rename News _ _ _ _ => N'); (rename IsRange _ _ _ _ _ _ _ _ => hR)
      obtain ⟨J2, J2i, J2e⟩ := exJ (fun (j : Nat) (m' : Str → Option Value) (nx : List (Addr × Obj)) (G : Prop) => ∀ u4, m' = (fun y => if y = Str.ofString "turn" then u4 else if y = Str.ofString "second" then some (.int (p.2 : Int) t2) else if y = Str.ofString "first" then some (.int (p.1 : Int) t1) else if y = Str.ofString "made" then some (.ref D') else mp [(Str.ofString "history", .bytes t.toArray tt), (Str.ofString "steps", .ref a)] y) → nx = [(I, oI), (D', baO (lz (ws t (ps.take i)) p.2 j))] → G)
      refine c_forRange (n := p.1) J2 hh hR rfl (by omega) F' N' (J2i _ _ _ fun G k => k u3 (by walk_at "mpU") rfl) ?_ ?_
      · rintro j tj m₁ nx h₁ tk₁ I2 oI2 hj hJ2 off2 F' N'
        refine c_foldA ?_
        intro q2 hq2
        refine J2e _ _ _ _ hJ2 ?_
        clear hJ2
        rintro u4 rfl rfl
        have hl := lz_length (ws t (ps.take i)) p.2 j
        k_steps
        walk_at "nm"
        walk_at "cMeth"
        walk_at "cWith"
        have hb := ((lz (ws t (ps.take i)) p.2 j).getD (((lz (ws t (ps.take i)) p.2 j).length : Int) - (p.2 : Int)).toNat 0).toNat_lt
        walk_at "cApp"
        refine c_nil ?_
        rw [u8_toNat, Int.toNat_sub] at N'
        exact hq2 _ _ (LoopPostX.next1 [(I, oI), (D', baO (lz (ws t (ps.take i)) p.2 (j + 1)))] rfl F' N' (by walk_at "subs") (by walk_at "offs") (J2i _ _ _ fun G k => k _ (by walk_at "mpU") rfl))
      · rintro m₁ nx h₁ tk₁ hJ2 F' N'
        refine J2e _ _ _ _ hJ2 ?_
        clear hJ2
        rintro u4 rfl rfl
        refine c_nil ?_
        rw [← tellW_mat (by omega), ← hws] at N'
        exact hq1 _ _ (LoopPostX.next1 [(D', baO (ws t (ps.take (i + 1))))] rfl F' N' (by walk_at "subs") (by walk_at "offs") (J1i _ _ _ fun G k => k (some (.int (p.1 : Int) t1)) (some (.int (p.2 : Int) t2)) u4 (by walk_at "mpU") rfl))
  · rintro g₁ m₁ nx h₁ tk₁ rfl hJ1 F' N'
    refine J1e _ _ _ _ hJ1 ?_
    clear hJ1
    rintro u1 u2 u3 rfl rfl
    have hpl := hps.length
    rw [List.take_of_length_le (by rw [List.length_map]; omega)] at N'
    walk_at "nm"
    walk_at "cStmt"
    exact hq0 _ _ (BackW.fin (mods := []) (by assumption) N N' hg' (by walk_at "modsub") fun F K => ⟨_, rfl, ret _ _ _ F K⟩)
end

/-! text R1 -/
abbrev rowO (n : Nat) (vs : List Value) : Obj := listOf vs.toArray n
abbrev repD (P : Params) (k : Tok) (rl : Addr) : Obj := dictOf [⟨PyData.keyHash P (Str.ofString "row"), .str (Str.ofString "row") k, .ref rl⟩] 1
theorem ln_R1_1 : True := by
  k_with "subscriptTail Name Slice ref ref" => (k_here; (with_reducible show wpAny _ _ (subscriptTail _ (PySem.Expr.Slice _ _ none _) (Value.ref _) (Value.ref _)) _ _ _); k_dflt ((try dsimp only); (rename Fr _ _ _ _ => F'); (rename News _ _ _ _ => N'); (refine' kmk_slice_ints (s := ⟨_, _, _, _, _⟩) F' N' ?sl ?sp ?sq ?si ?sm rfl ?_ ?ss ?st ?sz; (case sl => kmk_list); (case sp => kmk_part); (case sq => kmk_part); (case si => first | assumption | l_ints); (case sm => first | exact kmk_from (by assumption) (by omega) | exact kmk_upto (by assumption) (by omega)); (case ss => with_unfolding_all rfl); (case st => kmk_pure); (case sz => (rw [List.size_toArray, sizeLine_eq]; omega))); intro D' ws' h' F' N' l1 hI' hC' hL'; (try dsimp only at N' ⊢); (try k_lt l1)))
  trivial
section
variable {w : World} {A A₀ : Around} {s : Shared} {L : Addr} {h₀ base : Heap} {m mg mb : Str → Option Value} {loose : List Str} {mean : ExcName → Option Value} {env : Env} {outer : List Env} {Q : Value → Shared → Prop} {E : Value → Shared → Prop} {R : Flow → Shared → Prop} {news : List (Addr × Obj)} {x dx rl r : Addr} {k : Tok} {n : Nat} {vs : List Value} {row : List Int}
theorem ruse_ok (C : Cx w A A₀ L h₀ base env outer mean mg mb loose 25 90) (F : Fr h₀ L s.heap m) (N : News h₀ L s.heap [(x, instObj 217 dx), (dx, repD w.params k rl), (rl, rowO n vs)]) (hI : IntsAre vs row) (hl : row.length = 4) {i : Int} {ti : Tok} (hi : 0 ≤ i ∧ i < 4)
    (ret : ∀ h' rl' n' vs' td tk, Fr h₀ L h' m → Kept s.heap h' [dx] → s.heap.get? rl' = none → h'.get? dx = some (repD w.params k rl') → h'.get? rl' = some (rowO n' vs') → IntsAre vs' (row.getD i.toNat 0 :: (row.take i.toNat ++ row.drop (i.toNat + 1))) → Q (.int (row.getD i.toNat 0) td) { s with heap := h', toks := tk }) :
    wpAny (model PySem.Challenge.rw_tg0040_01.row.prog w) A (call (.ref 200) [.ref x, .int i ti]) Q E s := by
  walk_at "start"
  refine wpAny_call ?_
  k_dflt walk_at "enterW"
  have hlv := hI.length
  k_steps
  rename News _ _ _ _ => N'
  refine BackW.fin (mods := [dx]) (by assumption) N N' hg' (by walk_at "modsub") fun F K => ret _ _ _ _ _ _ F K (fresh_of hg' N' (List.Mem.head _) (by k_all)) (N'.get (by walk_at "mem")) (N'.get (by walk_at "mem")) ?_
  rename IntsAre _ _ => hJ
  have e1 : (i + 1).toNat = i.toNat + 1 := by omega
  simpa [e1] using hJ
theorem rput_ok (C : Cx w A A₀ L h₀ base env outer mean mg mb loose 25 90) (F : Fr h₀ L s.heap m) (N : News h₀ L s.heap [(x, instObj 217 dx), (dx, repD w.params k rl), (rl, rowO n vs)]) (hI : IntsAre vs row) (hl : row.length = 4) {e : Int} {te : Tok}
    (ret : ∀ h' rl' n' vs' tk, Fr h₀ L h' m → Kept s.heap h' [dx] → s.heap.get? rl' = none → h'.get? dx = some (repD w.params k rl') → h'.get? rl' = some (rowO n' vs') → IntsAre vs' (e :: row.take 3) → Q .none { s with heap := h', toks := tk }) :
    wpAny (model PySem.Challenge.rw_tg0040_01.row.prog w) A (call (.ref 207) [.ref x, .int e te]) Q E s := by
  walk_at "start"
  refine wpAny_call ?_
  k_dflt walk_at "enterW"
  have hlv := hI.length
  k_steps
  rename News _ _ _ _ => N'
  refine BackW.fin (mods := [dx]) (by assumption) N N' hg' (by walk_at "modsub") fun F K => ret _ _ _ _ _ F K (fresh_of hg' N' (List.Mem.head _) (by k_all)) (N'.get (by walk_at "mem")) (N'.get (by walk_at "mem")) ?_
  simpa using (by assumption : IntsAre _ ([e] ++ _))
theorem rcopy_ok (C : Cx w A A₀ L h₀ base env outer mean mg mb loose 35 120) (F : Fr h₀ L s.heap m) (N : News h₀ L s.heap [(x, instObj 217 dx), (dx, repD w.params k rl), (rl, rowO n vs)]) (hI : IntsAre vs row) (hl : row.length = 4)
    (ret : ∀ h' x' dx' rl' k' n' tk, Fr h₀ L h' m → Kept s.heap h' [] → h'.get? x' = some (instObj 217 dx') → h'.get? dx' = some (repD w.params k' rl') → h'.get? rl' = some (rowO n' vs) → s.heap.get? x' = none → s.heap.get? dx' = none → s.heap.get? rl' = none → x' ≠ dx' → x' ≠ rl' → dx' ≠ rl' → Q (.ref x') { s with heap := h', toks := tk }) :
    wpAny (model PySem.Challenge.rw_tg0040_01.row.prog w) A (call (.ref 214) [.ref x]) Q E s := by
  walk_at "start"
  refine wpAny_call ?_
  k_dflt walk_at "enterW"
  have hlv := hI.length
  k_steps
  rename News _ _ _ _ => N'
  exact BackW.fin (mods := []) (by assumption) N N' hg' (by walk_at "modsub") fun F K => ret _ _ _ _ _ _ _ F K (N'.get (by walk_at "mem")) (N'.get (by walk_at "mem")) (N'.get (by walk_at "mem")) (fresh_of hg' N' (by walk_at "mem") (by k_all)) (fresh_of hg' N' (by walk_at "mem") (by k_all)) (fresh_of hg' N' (by walk_at "mem") (by k_all)) (by k_ne) (by k_ne) (by k_ne)
end

/-! text S1 -/
theorem kinds_tup {P : Params} {h : Heap} (X : (hd.heap_1 P).In h) : ∃ t1 t2 t3 t4, IsTup h 222 #[.str (Str.ofString "lit") t1, .str (Str.ofString "match") t2, .str (Str.ofString "rep") t3, .str (Str.ofString "short") t4] := by
  have dummy : PySem.Challenge.rw_tg0040_01 = PySem.Challenge.rw_tg0040_01 := rfl
  revert X dummy; k_fill; intro X _
  have h2 := X 222 _ (by k_is)
  exact ⟨_, _, _, _, _, h2, rfl, _, rfl⟩
theorem lit_tup {P : Params} {h : Heap} (X : (hd.heap_1 P).In h) : ∃ t1, IsTup h 244 #[.str (Str.ofString "lit") t1] := by
  have dummy : PySem.Challenge.rw_tg0040_01 = PySem.Challenge.rw_tg0040_01 := rfl
  revert X dummy; k_fill; intro X _
  have h2 := X 244 _ (by k_is)
  exact ⟨_, _, h2, rfl, _, rfl⟩
section
variable {prog : Program} {w : World} {A : Around} {E : Value → Shared → Prop} {s : Shared} {h₀ : Heap} {L a : Addr} {m : Str → Option Value} {items : Array Value} {Q : Value → Shared → Prop}
theorem len_tup3 {x y z : Value} (F : Fr h₀ L s.heap m) (hT : IsTup h₀ a #[x, y, z]) (q : ∀ t k, Q (.int 3 t) { s with toks := k }) : wpAny (model prog w) A (call (.builtin "len") [.ref a]) Q E s :=
  len_tuple (Fr.tup F hT) (by simp) (q _ _)
theorem len_tup2 {x y : Value} (F : Fr h₀ L s.heap m) (hT : IsTup h₀ a #[x, y]) (q : ∀ t k, Q (.int 2 t) { s with toks := k }) : wpAny (model prog w) A (call (.builtin "len") [.ref a]) Q E s :=
  len_tuple (Fr.tup F hT) (by simp) (q _ _)
theorem len_tup1 {x : Value} (F : Fr h₀ L s.heap m) (hT : IsTup h₀ a #[x]) (q : ∀ t k, Q (.int 1 t) { s with toks := k }) : wpAny (model prog w) A (call (.builtin "len") [.ref a]) Q E s :=
  len_tuple (Fr.tup F hT) (by simp) (q _ _)
theorem notin_kinds {P : Params} {x : Str} {u : Tok} (F : Fr h₀ L s.heap m) (X : (hd.heap_1 P).In h₀) (hx : ([Str.ofString "lit", Str.ofString "match", Str.ofString "rep", Str.ofString "short"].any (· == x)) = true) (q : Q (.bool false) s) :
    wpAny (model prog w) A (compareOp .NotIn (.str x u) (.ref 222)) Q E s := by
  obtain ⟨t1, t2, t3, t4, hT⟩ := kinds_tup X
  refine notin_tuple_strs (Fr.tup F hT) (ys := [Str.ofString "lit", Str.ofString "match", Str.ofString "rep", Str.ofString "short"]) (by repeat constructor) ?_
  rw [hx]; exact q
end
theorem ln_S1_1 : True := by
  k_with "call builtin:len" => (k_here; (with_reducible show wpAny _ _ (call (Value.builtin "len") [Value.ref _]) _ _ _); k_dflt ((first | refine len_tup3 (by k_asm) (by assumption) ?_ | refine len_tup2 (by k_asm) (by assumption) ?_ | refine len_tup1 (by k_asm) (by assumption) ?_); intro _ _; (try dsimp only)))
  k_with "compareOp NotIn str ref" => (k_here; (with_reducible show wpAny _ _ (compareOp CmpOp.NotIn (Value.str _ _) (Value.ref 222)) _ _ _); k_dflt ((refine notin_kinds (P := w.params) (by k_asm) (by k_asm) (by decide +kernel) ?_); (try dsimp only)))
  trivial
section
variable {w : World} {A A₀ : Around} {s : Shared} {L : Addr} {h₀ base : Heap} {m mg mb : Str → Option Value} {loose : List Str} {mean : ExcName → Option Value} {env : Env} {outer : List Env} {Q : Value → Shared → Prop} {E : Value → Shared → Prop} {R : Flow → Shared → Prop} {news : List (Addr × Obj)} {a : Addr}
theorem whole_ok (C : Cx w A A₀ L h₀ base env outer mean mg mb loose 10 50) (F : Fr h₀ L s.heap m) {i : Int} {ti tm : Tok} {msg : Str}
    (ret : ∀ h' tk, Fr h₀ L h' m → Kept s.heap h' [] → Q .none { s with heap := h', toks := tk }) :
    wpAny (model PySem.Challenge.rw_tg0040_01.row.prog w) A (call (.ref 229) [.int i ti, .str msg tm]) Q E s := by
  have N : News h₀ L s.heap [] := News.nil
  walk_at "start"
  refine wpAny_call ?_
  k_dflt walk_at "enterW"
  k_steps
  exact BackW.fin (mods := []) (by assumption) N (by assumption) hg' (by walk_at "modsub") fun F K => ret _ _ F K
end
theorem ln_S1_2 : True := by
  k_with "call ref" => (k_here; (with_reducible show wpAny _ _ (call (Value.ref 229) [Value.int _ _, _]) _ _ _); k_dflt ((rename Fr _ _ _ _ => F'); (rename News _ _ _ _ => N'); (try dsimp only at N'); (refine whole_ok (C'.mono (by omega) (by omega)) F' ?_); intro h' tk' F' K'; (replace N' := Kept.news K' N' (fun _ h => h) (fun _ _ h => nomatch h)); (try dsimp only at N')))
  trivial
section
variable {w : World} {A A₀ : Around} {s : Shared} {L : Addr} {h₀ base : Heap} {m mg mb : Str → Option Value} {loose : List Str} {mean : ExcName → Option Value} {env : Env} {outer : List Env} {Q : Value → Shared → Prop} {E : Value → Shared → Prop} {R : Flow → Shared → Prop} {news : List (Addr × Obj)} {a : Addr}
theorem number_ok (C : Cx w A A₀ L h₀ base env outer mean mg mb loose 15 60) (F : Fr h₀ L s.heap m) {i lo up : Int} {ti tl th tm : Tok} {msg : Str} (hi : lo ≤ i ∧ i ≤ up)
    (ret : ∀ h' tk, Fr h₀ L h' m → Kept s.heap h' [] → Q .none { s with heap := h', toks := tk }) :
    wpAny (model PySem.Challenge.rw_tg0040_01.row.prog w) A (call (.ref 236) [.int i ti, .int lo tl, .int up th, .str msg tm]) Q E s := by
  have N : News h₀ L s.heap [] := News.nil
  walk_at "start"
  refine wpAny_call ?_
  k_dflt walk_at "enterW"
  k_steps
  exact BackW.fin (mods := []) (by assumption) N (by assumption) hg' (by walk_at "modsub") fun F K => ret _ _ F K
end
theorem ln_S1_3 : True := by
  k_with "call ref" => (k_here; (with_reducible show wpAny _ _ (call (Value.ref 236) [Value.int _ _, Value.int _ _, Value.int _ _, _]) _ _ _); k_dflt ((rename Fr _ _ _ _ => F'); (rename News _ _ _ _ => N'); (try dsimp only at N'); (refine number_ok (C'.mono (by omega) (by omega)) F' ?z ?_; (case z => omega)); intro h' tk' F' K'; (replace N' := Kept.news K' N' (fun _ h => h) (fun _ _ h => nomatch h)); (try dsimp only at N')))
  trivial
section
variable {w : World} {A A₀ : Around} {s : Shared} {L : Addr} {h₀ base : Heap} {m mg mb : Str → Option Value} {loose : List Str} {mean : ExcName → Option Value} {env : Env} {outer : List Env} {Q : Value → Shared → Prop} {E : Value → Shared → Prop} {R : Flow → Shared → Prop} {news : List (Addr × Obj)} {a : Addr}
theorem length_mat (C : Cx w A A₀ L h₀ base env outer mean mg mb loose 25 90) (F : Fr h₀ L s.heap m) {l d : Int} {t0 td tl : Tok} (hT : IsTup s.heap a #[.str (Str.ofString "match") t0, .int d td, .int l tl]) (hl : 2 ≤ l ∧ l ≤ 273)
    (ret : ∀ h' t tk, Fr h₀ L h' m → Kept s.heap h' [] → Q (.int l t) { s with heap := h', toks := tk }) :
    wpAny (model PySem.Challenge.rw_tg0040_01.row.prog w) A (call (.ref 243) [.ref a]) Q E s := by
  have N : News h₀ L s.heap [] := News.nil
  walk_at "start"
  refine wpAny_call ?_
  k_dflt walk_at "enterW"
  have hT' : IsTup g' a #[.str (Str.ofString "match") t0, .int d td, .int l tl] := let ⟨o, ho, r⟩ := hT; ⟨o, hg' _ _ ho List.not_mem_nil, r⟩
  obtain ⟨oa, hoa, hoc, hod⟩ := id hT'
  k_steps
  exact BackW.fin (mods := []) (by assumption) N (by assumption) hg' (by walk_at "modsub") fun F K => ret _ _ _ F K
theorem length_rep (C : Cx w A A₀ L h₀ base env outer mean mg mb loose 25 90) (F : Fr h₀ L s.heap m) {l d : Int} {t0 td tl : Tok} (hT : IsTup s.heap a #[.str (Str.ofString "rep") t0, .int d td, .int l tl]) (hl : 2 ≤ l ∧ l ≤ 273)
    (ret : ∀ h' t tk, Fr h₀ L h' m → Kept s.heap h' [] → Q (.int l t) { s with heap := h', toks := tk }) :
    wpAny (model PySem.Challenge.rw_tg0040_01.row.prog w) A (call (.ref 243) [.ref a]) Q E s := by
  have N : News h₀ L s.heap [] := News.nil
  walk_at "start"
  refine wpAny_call ?_
  k_dflt walk_at "enterW"
  have hT' : IsTup g' a #[.str (Str.ofString "rep") t0, .int d td, .int l tl] := let ⟨o, ho, r⟩ := hT; ⟨o, hg' _ _ ho List.not_mem_nil, r⟩
  obtain ⟨oa, hoa, hoc, hod⟩ := id hT'
  k_steps
  exact BackW.fin (mods := []) (by assumption) N (by assumption) hg' (by walk_at "modsub") fun F K => ret _ _ _ F K
theorem length_lit (C : Cx w A A₀ L h₀ base env outer mean mg mb loose 25 90) (F : Fr h₀ L s.heap m) {t0 : Tok} (hT : IsTup s.heap a #[.str (Str.ofString "lit") t0])
    (ret : ∀ h' t tk, Fr h₀ L h' m → Kept s.heap h' [] → Q (.int 1 t) { s with heap := h', toks := tk }) :
    wpAny (model PySem.Challenge.rw_tg0040_01.row.prog w) A (call (.ref 243) [.ref a]) Q E s := by
  have N : News h₀ L s.heap [] := News.nil
  walk_at "start"
  refine wpAny_call ?_
  k_dflt walk_at "enterW"
  have hT' : IsTup g' a #[.str (Str.ofString "lit") t0] := let ⟨o, ho, r⟩ := hT; ⟨o, hg' _ _ ho List.not_mem_nil, r⟩
  obtain ⟨oa, hoa, hoc, hod⟩ := id hT'
  k_steps
  exact BackW.fin (mods := []) (by assumption) N (by assumption) hg' (by walk_at "modsub") fun F K => ret _ _ _ F K
end

/-! text S2 -/
theorem tup_ground {h g h₀ : Heap} {L a : Addr} {news : List (Addr × Obj)} {items : Array Value} (hT : IsTup h a items) (N : News h₀ L h news) (hc : ∀ p ∈ news, p.2.cls ≠ .type "tuple") (hg : ∀ b o, h.get? b = some o → b ∉ news.map (·.1) → g.get? b = some o) : IsTup g a items := by
  obtain ⟨o, ho, hoc, r⟩ := hT
  refine ⟨o, hg _ _ ho fun hm => ?_, hoc, r⟩
  obtain ⟨p, hp, rfl⟩ := List.mem_map.mp hm
  rw [(N p hp).1] at ho
  rw [← Option.some.inj ho] at hoc
  exact hc p hp hoc
theorem ln_S2_1 : True := by
  k_with "notups" => first | exact List.forall_mem_nil _ | (refine fmc (by first | (exact fun h => Value.noConfusion h) | (exact fun h => absurd (Value.type.inj h) (by decide))) ?_; walk_at "notups")
  k_with "call ref" => (k_here; (with_reducible show wpAny _ _ (call (Value.ref 243) [Value.ref _]) _ _ _); k_dflt ((rename Fr _ _ _ _ => F'); (rename News _ _ _ _ => N'); (try dsimp only at N'); (first | (refine length_mat (C'.mono (by omega) (by omega)) F' (Fr.tup F' (by assumption)) ?zl ?_; (case zl => omega)) | (refine length_rep (C'.mono (by omega) (by omega)) F' (Fr.tup F' (by assumption)) ?zl2 ?_; (case zl2 => omega)) | (refine length_lit (C'.mono (by omega) (by omega)) F' (Fr.tup F' (by assumption)) ?_)); intro h' t' tk' F' K'; (replace N' := Kept.news K' N' (fun _ h => h) (fun _ _ h => nomatch h)); (try dsimp only at N')))
  k_with "call ref" => (k_here; (with_reducible show wpAny _ _ (call (Value.ref 207) [Value.ref _, Value.int _ _]) _ _ _); k_dflt ((rename Fr _ _ _ _ => F'); (rename News _ _ _ _ => N'); (try dsimp only at N'); (have F9 := F'); (refine rput_ok (C'.mono (by omega) (by omega)) F' (News.three N' (by walk_at "mem") (by walk_at "mem") (by walk_at "mem")) (by assumption) (by assumption) ?_); intro h' rl' n' vs' tk' F' K' fr' e1' e2' hI'; (have l1 := new_ne N' fr'); (replace N' := News.fresh1 F9 fr' e2' (News.put1 N' K' (by k_updF) e1')); clear F9; (try dsimp only at N')))
  k_with "call ref" => (k_here; (with_reducible show wpAny _ _ (call (Value.ref 200) [Value.ref _, Value.int _ _]) _ _ _); k_dflt ((rename Fr _ _ _ _ => F'); (rename News _ _ _ _ => N'); (try dsimp only at N'); (have F9 := F'); (refine ruse_ok (C'.mono (by omega) (by omega)) F' (News.three N' (by walk_at "mem") (by walk_at "mem") (by walk_at "mem")) (by assumption) (by assumption) ?zi ?_; (case zi => omega)); intro h' rl' n' vs' td' tk' F' K' fr' e1' e2' hI'; (have l1 := new_ne N' fr'); (replace N' := News.fresh1 F9 fr' e2' (News.put1 N' K' (by k_updF) e1')); clear F9; (try dsimp only at N')))
  trivial
section
variable {w : World} {A A₀ : Around} {s : Shared} {L : Addr} {h₀ base : Heap} {m mg mb : Str → Option Value} {loose : List Str} {mean : ExcName → Option Value} {env : Env} {outer : List Env} {Q : Value → Shared → Prop} {E : Value → Shared → Prop} {R : Flow → Shared → Prop} {news : List (Addr × Obj)} {x dx rl a : Addr} {k t0 td tl : Tok} {n : Nat} {vs : List Value} {row : List Int} {l d i : Int}
theorem dist_lit (C : Cx w A A₀ L h₀ base env outer mean mg mb loose 35 120) (F : Fr h₀ L s.heap m) (hT : IsTup s.heap a #[.str (Str.ofString "lit") t0])
    (ret : ∀ h' t tk, Fr h₀ L h' m → Kept s.heap h' [] → Q (.int 0 t) { s with heap := h', toks := tk }) :
    wpAny (model PySem.Challenge.rw_tg0040_01.row.prog w) A (call (.ref 251) [.ref a, .ref x]) Q E s := by
  have N : News h₀ L s.heap [] := News.nil
  walk_at "start"
  refine wpAny_call ?_
  k_dflt walk_at "enterW"
  have hT' := tup_ground hT N (by walk_at "notups") hg'
  k_steps
  exact BackW.fin (mods := []) (by assumption) N (by assumption) hg' (by walk_at "modsub") fun F K => ret _ _ _ F K
theorem dist_mat (C : Cx w A A₀ L h₀ base env outer mean mg mb loose 35 120) (F : Fr h₀ L s.heap m) (N : News h₀ L s.heap [(x, instObj 217 dx), (dx, repD w.params k rl), (rl, rowO n vs)]) (hI : IntsAre vs row) (hl : row.length = 4) (hT : IsTup s.heap a #[.str (Str.ofString "match") t0, .int d td, .int l tl]) (hr : 2 ≤ l ∧ l ≤ 273)
    (ret : ∀ h' rl' n' vs' tk, Fr h₀ L h' m → Kept s.heap h' [dx] → s.heap.get? rl' = none → h'.get? dx = some (repD w.params k rl') → h'.get? rl' = some (rowO n' vs') → IntsAre vs' (d :: row.take 3) → Q (.int d td) { s with heap := h', toks := tk }) :
    wpAny (model PySem.Challenge.rw_tg0040_01.row.prog w) A (call (.ref 251) [.ref a, .ref x]) Q E s := by
  walk_at "start"
  refine wpAny_call ?_
  k_dflt walk_at "enterW"
  have hT' := tup_ground hT N (by walk_at "notups") hg'
  k_steps
  rename News _ _ _ _ => N'
  exact BackW.fin (mods := [dx]) (by assumption) N N' hg' (by walk_at "modsub") fun F K => ret _ _ _ _ _ F K (fresh_of hg' N' (List.Mem.head _) (by k_all)) (N'.get (by walk_at "mem")) (N'.get (by walk_at "mem")) (by assumption)
theorem dist_rep (C : Cx w A A₀ L h₀ base env outer mean mg mb loose 35 120) (F : Fr h₀ L s.heap m) (N : News h₀ L s.heap [(x, instObj 217 dx), (dx, repD w.params k rl), (rl, rowO n vs)]) (hI : IntsAre vs row) (hl : row.length = 4) (hT : IsTup s.heap a #[.str (Str.ofString "rep") t0, .int i td, .int l tl]) (hr : 2 ≤ l ∧ l ≤ 273) (hi : 0 ≤ i ∧ i < 4)
    (ret : ∀ h' rl' n' vs' t' tk, Fr h₀ L h' m → Kept s.heap h' [dx] → s.heap.get? rl' = none → h'.get? dx = some (repD w.params k rl') → h'.get? rl' = some (rowO n' vs') → IntsAre vs' (row.getD i.toNat 0 :: (row.take i.toNat ++ row.drop (i.toNat + 1))) → Q (.int (row.getD i.toNat 0) t') { s with heap := h', toks := tk }) :
    wpAny (model PySem.Challenge.rw_tg0040_01.row.prog w) A (call (.ref 251) [.ref a, .ref x]) Q E s := by
  walk_at "start"
  refine wpAny_call ?_
  k_dflt walk_at "enterW"
  have hT' := tup_ground hT N (by walk_at "notups") hg'
  k_steps
  rename News _ _ _ _ => N'
  exact BackW.fin (mods := [dx]) (by assumption) N N' hg' (by walk_at "modsub") fun F K => ret _ _ _ _ _ _ F K (fresh_of hg' N' (List.Mem.head _) (by k_all)) (N'.get (by walk_at "mem")) (N'.get (by walk_at "mem")) (by assumption)
end

/-! text N1 -/
/-- a named step -/
inductive NS where
  | lit
  | mat (d l : Nat)
  | rep (i l : Nat)
def nameS (row : List Int) (p : Nat × Nat) : NS := if p.1 = 0 then .lit else if (p.2 : Int) ∈ row then .rep (row.idxOf (p.2 : Int)) p.1 else .mat p.2 p.1
def rowS (row : List Int) (p : Nat × Nat) : List Int := if p.1 = 0 then row else if (p.2 : Int) ∈ row then row.getD (row.idxOf (p.2 : Int)) 0 :: (row.take (row.idxOf (p.2 : Int)) ++ row.drop (row.idxOf (p.2 : Int) + 1)) else (p.2 : Int) :: row.take 3
def rowsS (row : List Int) (ps : List (Nat × Nat)) : List Int := ps.foldl rowS row
def singles (ps : List (Nat × Nat)) : List UInt8 := (ps.filter (fun p => p.1 = 0)).map fun p => p.2.toUInt8
theorem rowS_length {row : List Int} {p : Nat × Nat} (h : row.length = 4) : (rowS row p).length = 4 := by
  unfold rowS
  split
  · exact h
  split
  · rename_i hm
    have := List.idxOf_lt_length_iff.mpr hm
    simp only [List.length_cons, List.length_append, List.length_take, List.length_drop]; omega
  · simp only [List.length_cons, List.length_take]; omega
theorem rowsS_length {ps : List (Nat × Nat)} : ∀ {row : List Int}, row.length = 4 → (rowsS row ps).length = 4 := by
  induction ps with
  | nil => intro row h; exact h
  | cons p ps ih => intro row h; exact ih (rowS_length h)
theorem rowsS_snoc {row : List Int} {ps : List (Nat × Nat)} {i : Nat} {p : Nat × Nat} (h : ps[i]? = some p) : rowsS row (ps.take (i + 1)) = rowS (rowsS row (ps.take i)) p := by
  rw [List.take_add_one, h]; exact List.foldl_append
theorem singles_snoc {ps : List (Nat × Nat)} {i : Nat} {p : Nat × Nat} (h : ps[i]? = some p) : singles (ps.take (i + 1)) = singles (ps.take i) ++ (if p.1 = 0 then [p.2.toUInt8] else []) := by
  unfold singles
  rw [List.take_add_one, h]
  by_cases h0 : p.1 = 0 <;> simp [h0]
theorem singles_append (as bs : List (Nat × Nat)) : singles (as ++ bs) = singles as ++ singles bs := by unfold singles; simp
theorem singles_le (ps : List (Nat × Nat)) (i : Nat) : (singles (ps.take i)).length ≤ (singles ps).length := by
  conv => rhs; rw [← List.take_append_drop i ps, singles_append]
  rw [List.length_append]; omega
/-- the literal that is next -/
theorem singles_next {ps : List (Nat × Nat)} {i : Nat} {p : Nat × Nat} (h : ps[i]? = some p) (h0 : p.1 = 0) : (singles (ps.take i)).length < (singles ps).length ∧ (singles ps).getD (singles (ps.take i)).length 0 = p.2.toUInt8 := by
  have e := singles_snoc h
  rw [if_pos h0] at e
  have l1 := singles_le ps (i + 1)
  rw [e, List.length_append, List.length_singleton] at l1
  refine ⟨by omega, ?_⟩
  have e2 : singles ps = singles (ps.take i) ++ ([p.2.toUInt8] ++ singles (ps.drop (i + 1))) := by
    rw [← List.append_assoc, ← e, ← singles_append, List.take_append_drop]
  rw [e2]
  simp
def NamedAt (h : Heap) (a : Addr) : NS → Prop
  | .lit => ∃ t, IsTup h a #[.str (Str.ofString "lit") t]
  | .mat d l => ∃ t u v, IsTup h a #[.str (Str.ofString "match") t, .int (d : Int) u, .int (l : Int) v]
  | .rep i l => ∃ t u v, IsTup h a #[.str (Str.ofString "rep") t, .int (i : Int) u, .int (l : Int) v]
def NamesAt (h : Heap) : List Addr → List NS → Prop
  | a :: as, p :: ps => NamedAt h a p ∧ NamesAt h as ps
  | [], [] => True
  | _, _ => False
theorem isTup_keeps {h h' : Heap} {a : Addr} {items : Array Value} (k : ∀ b o, h.get? b = some o → o.cls = .type "tuple" → h'.get? b = some o) (x : IsTup h a items) : IsTup h' a items := by
  obtain ⟨o, ho, hc, hd⟩ := x
  exact ⟨o, k _ _ ho hc, hc, hd⟩
theorem NamedAt.keeps {h h' : Heap} (k : ∀ b o, h.get? b = some o → o.cls = .type "tuple" → h'.get? b = some o) {a : Addr} : ∀ {p : NS}, NamedAt h a p → NamedAt h' a p
  | .lit, ⟨t, x⟩ => ⟨t, isTup_keeps k x⟩
  | .mat _ _, ⟨t, u, v, x⟩ => ⟨t, u, v, isTup_keeps k x⟩
  | .rep _ _, ⟨t, u, v, x⟩ => ⟨t, u, v, isTup_keeps k x⟩
theorem NamesAt.keeps {h h' : Heap} (k : ∀ b o, h.get? b = some o → o.cls = .type "tuple" → h'.get? b = some o) : ∀ {as : List Addr} {ps : List NS}, NamesAt h as ps → NamesAt h' as ps
  | [], [], _ => trivial
  | _ :: _, _ :: _, ⟨x, r⟩ => ⟨x.keeps k, NamesAt.keeps k r⟩
theorem NamesAt.length {h : Heap} : ∀ {as : List Addr} {ps : List NS}, NamesAt h as ps → as.length = ps.length
  | [], [], _ => rfl
  | _ :: _, _ :: _, ⟨_, r⟩ => by rw [List.length_cons, List.length_cons, NamesAt.length r]
theorem NamesAt.get {h : Heap} : ∀ {as : List Addr} {ps : List NS} {i : Nat} {v : Value}, NamesAt h as ps → (as.map Value.ref)[i]? = some v → ∃ a p, v = .ref a ∧ ps[i]? = some p ∧ NamedAt h a p
  | _ :: _, _ :: _, 0, _, ⟨x, _⟩, e => by cases e; exact ⟨_, _, rfl, rfl, x⟩
  | _ :: _, _ :: _, i + 1, _, ⟨_, r⟩, e => NamesAt.get (i := i) r e
theorem NamesAt.snoc {h : Heap} {a : Addr} {p : NS} (x : NamedAt h a p) : ∀ {as : List Addr} {ps : List NS}, NamesAt h as ps → NamesAt h (as ++ [a]) (ps ++ [p])
  | [], [], _ => ⟨x, trivial⟩
  | _ :: _, _ :: _, ⟨y, r⟩ => ⟨y, NamesAt.snoc x r⟩
/-- the names of the steps, told one by one -/
def namesS (row : List Int) : List (Nat × Nat) → List NS
  | [] => []
  | p :: ps => nameS row p :: namesS (rowS row p) ps
theorem namesS_get : ∀ {ps : List (Nat × Nat)} {row : List Int} {i : Nat} {p : Nat × Nat}, ps[i]? = some p → (namesS row ps)[i]? = some (nameS (rowsS row (ps.take i)) p)
  | _ :: _, _, 0, _, e => by cases e; rfl
  | _ :: ps, row, i + 1, _, e => namesS_get (ps := ps) (row := rowS row _) (i := i) e
theorem namesS_length : ∀ {ps : List (Nat × Nat)} {row : List Int}, (namesS row ps).length = ps.length
  | [], _ => rfl
  | _ :: ps, row => by rw [namesS, List.length_cons, namesS_length, List.length_cons]
theorem namesS_take : ∀ {ps : List (Nat × Nat)} {row : List Int} {i : Nat}, (namesS row ps).take i = namesS row (ps.take i)
  | [], _, _ => by simp [namesS]
  | _ :: _, _, 0 => rfl
  | _ :: ps, row, i + 1 => by simp only [namesS, List.take_succ_cons]; rw [namesS_take]
theorem nameS_lit {row : List Int} {p : Nat × Nat} (h : p.1 = 0) : nameS row p = .lit := if_pos h
theorem nameS_rep {row : List Int} {p : Nat × Nat} (h : p.1 ≠ 0) (hm : (p.2 : Int) ∈ row) : nameS row p = .rep (row.idxOf (p.2 : Int)) p.1 := by unfold nameS; rw [if_neg h, if_pos hm]
theorem nameS_mat {row : List Int} {p : Nat × Nat} (h : p.1 ≠ 0) (hm : ¬ (p.2 : Int) ∈ row) : nameS row p = .mat p.2 p.1 := by unfold nameS; rw [if_neg h, if_neg hm]
theorem rowS_lit {row : List Int} {p : Nat × Nat} (h : p.1 = 0) : rowS row p = row := if_pos h
theorem rowS_rep {row : List Int} {p : Nat × Nat} (h : p.1 ≠ 0) (hm : (p.2 : Int) ∈ row) : rowS row p = row.getD (row.idxOf (p.2 : Int)) 0 :: (row.take (row.idxOf (p.2 : Int)) ++ row.drop (row.idxOf (p.2 : Int) + 1)) := by unfold rowS; rw [if_neg h, if_pos hm]
theorem rowS_mat {row : List Int} {p : Nat × Nat} (h : p.1 ≠ 0) (hm : ¬ (p.2 : Int) ∈ row) : rowS row p = (p.2 : Int) :: row.take 3 := by unfold rowS; rw [if_neg h, if_neg hm]
theorem getD_idxOf {row : List Int} {d : Int} (hm : d ∈ row) : row.getD (row.idxOf d) 0 = d := by
  have h := List.idxOf_lt_length_iff.mpr hm
  rw [List.getD_eq_getElem?_getD, List.getElem?_eq_getElem h, Option.getD_some]
  exact List.getElem_idxOf h

/-! text S3 -/
theorem ln_S3_1 : True := by
  k_with "call ref" => (k_here; (with_reducible show wpAny _ _ (call (Value.ref 214) _) _ _ _); k_dflt ((rename Fr _ _ _ _ => F'); (rename News _ _ _ _ => N'); (try dsimp only at N'); (have F9 := F'); (refine rcopy_ok (C'.mono (by omega) (by omega)) F' (News.three N' (by walk_at "mem") (by walk_at "mem") (by walk_at "mem")) (by assumption) (by assumption) ?_); intro h' x2 dx2 rl2 k2 n2 tk' F' K' e1' e2' e3' f1' f2' f3' ne1 ne2 ne3; (have l1 := new_ne N' f1'); (have l2 := new_ne N' f2'); (have l3 := new_ne N' f3'); (replace N' := News.fresh1 F9 f1' e1' (News.fresh1 F9 f2' e2' (News.fresh1 F9 f3' e3' (Kept.news K' N' (fun _ h => h) (fun _ _ h => nomatch h))))); clear F9; (try dsimp only at N')))
  k_with "call ref" => (k_here; (with_reducible show wpAny _ _ (call (Value.ref 251) [Value.ref _, Value.ref _]) _ _ _); k_dflt ((rename Fr _ _ _ _ => F'); (rename News _ _ _ _ => N'); (try dsimp only at N'); (have F9 := F'); (first | ((refine dist_mat (C'.mono (by omega) (by omega)) F' (News.three N' (by walk_at "mem") (by walk_at "mem") (by walk_at "mem")) (by assumption) (by assumption) (Fr.tup F' (by assumption)) ?zr ?_; (case zr => omega)); intro h' rl' n' vs' tk' F' K' fr' e1' e2' hI') | ((refine dist_rep (C'.mono (by omega) (by omega)) F' (News.three N' (by walk_at "mem") (by walk_at "mem") (by walk_at "mem")) (by assumption) (by assumption) (Fr.tup F' (by assumption)) ?zr2 ?zi ?_; (case zr2 => omega); (case zi => omega)); intro h' rl' n' vs' t' tk' F' K' fr' e1' e2' hI')); (have l1 := new_ne N' fr'); (replace N' := News.fresh1 F9 fr' e2' (News.put1 N' K' (by k_updF) e1')); clear F9; (try dsimp only at N')))
  k_with "call ref" => (k_here; (with_reducible show wpAny _ _ (call (Value.ref 251) [Value.ref _, Value.ref _]) _ _ _); k_dflt ((rename Fr _ _ _ _ => F'); (rename News _ _ _ _ => N'); (try dsimp only at N'); (refine dist_lit (C'.mono (by omega) (by omega)) F' (Fr.tup F' (by assumption)) ?_); intro h' t' tk' F' K'; (replace N' := Kept.news K' N' (fun _ h => h) (fun _ _ h => nomatch h)); (try dsimp only at N')))
  trivial
section
variable {w : World} {A A₀ : Around} {s : Shared} {L : Addr} {h₀ base : Heap} {m mg mb : Str → Option Value} {loose : List Str} {mean : ExcName → Option Value} {env : Env} {outer : List Env} {Q : Value → Shared → Prop} {E : Value → Shared → Prop} {R : Flow → Shared → Prop} {news : List (Addr × Obj)} {x dx rl a : Addr} {as : List Addr} {k t0 td tl tt ts : Tok} {n : Nat} {vs : List Value} {row : List Int} {t : List UInt8} {ps : List (Nat × Nat)}
theorem notin3' {h h₀ : Heap} {L b x dx rl : Addr} {o o1 o2 o3 : Obj} (N : News h₀ L h [(x, o1), (dx, o2), (rl, o3)]) (e : h.get? b = some o) (h1 : o1.cls ≠ o.cls) (h2 : o2.cls ≠ o.cls) (h3 : o3.cls ≠ o.cls) : b ∉ [(x, o1), (dx, o2), (rl, o3)].map (·.1) := fun hm => by
  simp only [List.map_cons, List.map_nil, List.mem_cons, List.not_mem_nil, or_false] at hm
  rcases hm with rfl | rfl | rfl
  · have := (N _ (.head _)).1; rw [e] at this; exact h1 (congrArg Obj.cls (Option.some.inj this)).symm
  · have := (N _ (.tail _ (.head _))).1; rw [e] at this; exact h2 (congrArg Obj.cls (Option.some.inj this)).symm
  · have := (N _ (.tail _ (.tail _ (.head _)))).1; rw [e] at this; exact h3 (congrArg Obj.cls (Option.some.inj this)).symm
theorem notin3 {h h₀ : Heap} {L b x dx rl : Addr} {o o1 o2 o3 : Obj} (N : News h₀ L h [(x, o1), (dx, o2), (rl, o3)]) (e : h.get? b = some o) (h1 : o1.cls ≠ o.cls) (h2 : o2.cls ≠ o.cls) (h3 : b ≠ rl) : b ∉ [(x, o1), (dx, o2), (rl, o3)].map (·.1) := fun hm => by
  simp only [List.map_cons, List.map_nil, List.mem_cons, List.not_mem_nil, or_false] at hm
  rcases hm with rfl | rfl | rfl
  · have := (N _ (.head _)).1; rw [e] at this; exact h1 (congrArg Obj.cls (Option.some.inj this)).symm
  · have := (N _ (.tail _ (.head _))).1; rw [e] at this; exact h2 (congrArg Obj.cls (Option.some.inj this)).symm
  · exact h3 rfl
theorem News.sub {h h₀ : Heap} {L : Addr} {news rest : List (Addr × Obj)} (N : News h₀ L h news) (hs : ∀ p ∈ rest, p ∈ news) : News h₀ L h rest := fun p hp => N p (hs p hp)
theorem play_ok (C : Cx w A A₀ L h₀ base env outer mean mg mb loose 45 150) (F : Fr h₀ L s.heap m) (N : News h₀ L s.heap [(x, instObj 217 dx), (dx, repD w.params k rl), (rl, rowO n vs)]) (hI : IntsAre vs row) (hl : row.length = 4)
    (S : ∃ o nn, s.heap.get? a = some o ∧ o.cls = .type "list" ∧ o.data = .seq (as.map Value.ref).toArray nn) (hN : NamesAt s.heap as (namesS row ps)) (G : Good t ps) (ha : a ≠ rl)
    (ret : ∀ h' tr tk, Fr h₀ L h' m → Kept s.heap h' [] → Q (.bytes ((ws t ps).drop t.length).toArray tr) { s with heap := h', toks := tk }) :
    wpC (model PySem.Challenge.rw_tg0040_01.row.prog w) A (call (.ref 259) [.ref a, .bytes (singles ps).toArray ts, .bytes t.toArray tt, .ref x]) Q s := by
  have hlen := ws_length ps t
  have hlen2 := G.len
  have hsl := singles_le ps ps.length
  have hss : (singles ps).length ≤ 10000 := by
    have := G.cnt
    have h2 := List.length_filter_le (fun p : Nat × Nat => p.1 = 0) ps
    simp only [singles, List.length_map]; omega
  walk_at "start"
  refine c_call ?_
  k_dflt walk_at "enterC"
  refine c_fold ?_
  intro q0 hq0
  obtain ⟨ol, nn, hol0, hc, hd⟩ := S
  have hol : g'.get? a = some ol := hg' _ _ hol0 (notin3 N hol0 (by rw [hc]; exact fun h => Value.noConfusion h) (by rw [hc]; exact fun h => absurd (Value.type.inj h) (by decide)) ha)
  have hNg : NamesAt g' as (namesS row ps) := hN.keeps fun b o e ec => hg' b o e (notin3' N e (by rw [ec]; exact fun h => Value.noConfusion h) (by rw [ec]; exact fun h => absurd (Value.type.inj h) (by decide)) (by rw [ec]; exact fun h => absurd (Value.type.inj h) (by decide)))
  walk_at "nm"
  refine c_cons (c_AssignSwap (c_Tuple3 (c_CallName ?_)))
  k_steps
  walk_at "cWith"
  walk_at "cNewBA"
  refine c_any ?_
  k_steps
  refine c_any ?_
  k_steps
  (rename Fr _ _ _ _ => F'); (rename News _ _ _ _ => N')
  refine ((fun G k => k _ F') : ∀ G : Prop, (∀ tsp0, Fr g' L' _ (fun y => if y = Str.ofString "out" then some (.ref D') else if y = Str.ofString "spare" then some (.int 0 tsp0) else if y = Str.ofString "own" then some (.ref x2) else mp [(Str.ofString "reps", .ref x), (Str.ofString "history", .bytes t.toArray tt), (Str.ofString "literals", .bytes (singles ps).toArray ts), (Str.ofString "steps", .ref a)] y) → G) → G) _ ?_
  intro tsp0 F'
  have N'' : News g' L' _ [(x2, instObj 217 dx2), (dx2, repD w.params k2 rl2), (rl2, rowO n2 vs), (D', baO t), (x, instObj 217 dx), (dx, repD w.params k rl), (rl, rowO n vs)] := fun p hp => N' p (List.Mem.tail _ hp)
  have hne0 : rl2 ≠ rl := fun e => l3 (rl, rowO n vs) (by walk_at "mem") e.symm
  clear N'
  walk_at "nm"
  refine c_cons (c_For ?_)
  k_steps
  (rename Fr _ _ _ _ => F'); (rename News _ _ _ _ => N'')
  obtain ⟨J1, J1i, J1e⟩ := exJ (fun (i : Nat) (m' : Str → Option Value) (nx : List (Addr × Obj)) (G : Prop) => ∀ u2 u3 u4 tsp rl2 n2 vs2, m' = (fun y => if y = Str.ofString "step" then u2 else if y = Str.ofString "distance" then u3 else if y = Str.ofString "turn" then u4 else if y = Str.ofString "spare" then some (.int ((singles (ps.take i)).length : Int) tsp) else if y = Str.ofString "out" then some (.ref D') else if y = Str.ofString "own" then some (.ref x2) else mp [(Str.ofString "reps", .ref x), (Str.ofString "history", .bytes t.toArray tt), (Str.ofString "literals", .bytes (singles ps).toArray ts), (Str.ofString "steps", .ref a)] y) → nx = [(x2, instObj 217 dx2), (dx2, repD w.params k2 rl2), (rl2, rowO n2 vs2), (D', baO (ws t (ps.take i))), (x, instObj 217 dx), (dx, repD w.params k rl), (rl, rowO n vs)] → IntsAre vs2 (rowsS row (ps.take i)) → rl2 ≠ rl → G)
  refine c_forListX (l := a) (· = g') J1 hh rfl F' N'' hc hd (fun i g₁ m nx h e _ F _ => by subst e; exact F.keep _ _ hol) (J1i _ _ _ fun G k => k none none none tsp0 rl2 n2 vs ?mp0 rfl hI hne0) ?_ ?_
  case mp0 =>
    walk_at "mpU"
  clear F' N'' hne0
  · rintro i v g₁ m₁ nx h₁ tk₁ I oI hi hv1 rfl hJ1 off F' N'
    refine c_foldA ?_
    intro q1 hq1
    refine J1e _ _ _ _ hJ1 ?_
    clear hJ1
    rintro u2 u3 u4 tsp rl3 n3 vs3 rfl rfl hI3 hne3
    obtain ⟨b, q, rfl, hq, hb⟩ := hNg.get hv1
    have hip : i < ps.length := by have := hNg.length; rw [namesS_length] at this; rw [List.length_map] at hi; omega
    obtain ⟨p, hp⟩ : ∃ p, ps[i]? = some p := ⟨_, List.getElem?_eq_getElem hip⟩
    rw [namesS_get hp] at hq
    obtain rfl := Option.some.inj hq
    have hl3 : (rowsS row (ps.take i)).length = 4 := rowsS_length hl
    have hrs := rowsS_snoc (row := row) hp
    have hfit := G.fit _ _ hp
    have htl := G.take i
    have hws := ws_snoc (t := t) hp
    have hsg := singles_snoc hp
    have hsi := singles_le ps i
    rcases hfit with ⟨hk1, hk2⟩ | ⟨hk1, hk2, hk3, hk4⟩
    · rw [nameS_lit hk1] at hb
      obtain ⟨tl1, hT⟩ := hb
      obtain ⟨hnx1, hnx2⟩ := singles_next hp hk1
      k_steps
      walk_at "nm"
      walk_at "cStmt"
      walk_at "nm"
      refine c_cons (c_If ?_)
      k_steps
      walk_at "nm"
      walk_at "cStmt"
      walk_at "nm"
      walk_at "cMeth"
      walk_at "cWith"
      have hb256 := ((singles ps).getD (((singles (ps.take i)).length : Nat) : Int).toNat 0).toNat_lt
      walk_at "cApp"
      walk_at "cStmt"
      walk_at "cStmt"
      (rename Fr _ _ _ _ => F'); (rename News _ _ _ _ => N')
      rw [u8_toNat, Int.toNat_natCast, hnx2, ← tellW_lit hk1, ← hws] at N'
      have hcast : ((singles (ps.take (i + 1))).length : Int) = ((singles (ps.take i)).length : Int) + 1 := by rw [hsg, if_pos hk1, List.length_append]; rfl
      rw [← hcast] at F'
      rw [← rowS_lit (p := p) hk1 (row := rowsS row (ps.take i)), ← hrs] at hI3
      refine' hq1 _ _ (LoopPostX.cont1 [(x2, instObj 217 dx2), (dx2, repD w.params k2 rl3), (rl3, rowO n3 vs3), (D', baO (ws t (ps.take (i + 1)))), (x, instObj 217 dx), (dx, repD w.params k rl), (rl, rowO n vs)] rfl F' N' (by walk_at "subs") (by walk_at "offs") (J1i _ _ _ fun G k => k (some (.ref b)) (some (.int 0 _)) u4 _ rl3 n3 vs3 ?mpL rfl hI3 hne3))
      case mpL =>
        walk_at "mpU"
    by_cases hm : (p.2 : Int) ∈ rowsS row (ps.take i)
    · rw [nameS_rep (by omega) hm] at hb
      obtain ⟨tn1, tn2, tn3, hT⟩ := hb
      have hix := List.idxOf_lt_length_iff.mpr hm
      have hget := getD_idxOf hm
      rw [hl3] at hix
      k_steps
      walk_at "cStmt"
      (rename Fr _ _ _ _ => F'); (rename News _ _ _ _ => N'); (rename IntsAre _ _ => hI')
      rw [Int.toNat_natCast] at hI' F'
      rw [hget] at F'
      rw [← rowS_rep (by omega) hm, ← hrs] at hI'
      have hne4 : rl' ≠ rl := fun e => l1 (rl, rowO n vs) (by walk_at "mem") e.symm
      walk_at "nm"
      walk_at "cStmt"
      walk_at "nm"
      walk_at "cStmt"
      (rename Fr _ _ _ _ => F'); (rename News _ _ _ _ => N')
      walk_at "nm"
      refine c_cons (c_For ?_)
      k_steps
      (rename Fr _ _ _ _ => F'); (rename News _ _ _ _ => N'); (rename IsRange _ _ _ _ _ _ _ _ => hR)
      have N2 : News g₁ L' _ [(I, oI), (x2, instObj 217 dx2), (dx2, repD w.params k2 rl'), (rl', rowO n' vs'), (D', baO (lz (ws t (ps.take i)) p.2 0)), (x, instObj 217 dx), (dx, repD w.params k rl), (rl, rowO n vs)] := News.sub N' (by walk_at "subs")
      obtain ⟨J2, J2i, J2e⟩ := exJ (fun (j : Nat) (m' : Str → Option Value) (nx : List (Addr × Obj)) (G : Prop) => ∀ u5 tdv, m' = (fun y => if y = Str.ofString "turn" then u5 else if y = Str.ofString "distance" then some (.int (p.2 : Int) tdv) else if y = Str.ofString "step" then some (.ref b) else if y = Str.ofString "spare" then some (.int ((singles (ps.take i)).length : Int) tsp) else if y = Str.ofString "out" then some (.ref D') else if y = Str.ofString "own" then some (.ref x2) else mp [(Str.ofString "reps", .ref x), (Str.ofString "history", .bytes t.toArray tt), (Str.ofString "literals", .bytes (singles ps).toArray ts), (Str.ofString "steps", .ref a)] y) → nx = [(I, oI), (x2, instObj 217 dx2), (dx2, repD w.params k2 rl'), (rl', rowO n' vs'), (D', baO (lz (ws t (ps.take i)) p.2 j)), (x, instObj 217 dx), (dx, repD w.params k rl), (rl, rowO n vs)] → G)
      refine' c_forRange (n := p.1) J2 hh hR rfl (by omega) F' N2 (J2i _ _ _ fun G k => k u4 _ ?miA rfl) ?_ ?_
      case miA =>
        walk_at "mpU"
      · rintro j tj m₁ nx h₁ tk₁ I2 oI2 hj hJ2 off2 F' N'
        refine c_foldA ?_
        intro q2 hq2
        refine J2e _ _ _ _ hJ2 ?_
        clear hJ2
        rintro u5 tdv rfl rfl
        have hlz := lz_length (ws t (ps.take i)) p.2 j
        k_steps
        walk_at "nm"
        walk_at "cMeth"
        walk_at "cWith"
        have hb := ((lz (ws t (ps.take i)) p.2 j).getD (((lz (ws t (ps.take i)) p.2 j).length : Int) - (p.2 : Int)).toNat 0).toNat_lt
        walk_at "cApp"
        refine c_nil ?_
        rw [u8_toNat, Int.toNat_sub] at N'
        refine' hq2 _ _ (LoopPostX.next1 [(I, oI), (x2, instObj 217 dx2), (dx2, repD w.params k2 rl'), (rl', rowO n' vs'), (D', baO (lz (ws t (ps.take i)) p.2 (j + 1))), (x, instObj 217 dx), (dx, repD w.params k rl), (rl, rowO n vs)] rfl F' N' (by walk_at "subs") (by walk_at "offs") (J2i _ _ _ fun G k => k _ tdv ?mjA rfl))
        case mjA =>
          walk_at "mpU"
      · rintro m₁ nx h₁ tk₁ hJ2 F' N'
        refine J2e _ _ _ _ hJ2 ?_
        clear hJ2
        rintro u5 tdv rfl rfl
        refine c_nil ?_
        rw [← tellW_mat (by omega), ← hws] at N'
        have hcast : singles (ps.take (i + 1)) = singles (ps.take i) := by rw [hsg, if_neg (by omega), List.append_nil]
        rw [← hcast] at F'
        refine hq1 _ _ (LoopPostX.next1 [(x2, instObj 217 dx2), (dx2, repD w.params k2 rl'), (rl', rowO n' vs'), (D', baO (ws t (ps.take (i + 1)))), (x, instObj 217 dx), (dx, repD w.params k rl), (rl, rowO n vs)] rfl F' N' (by walk_at "subs") (by walk_at "offs") (J1i _ _ _ fun G k => k (some (.ref b)) (some (.int (p.2 : Int) tdv)) u5 tsp rl' n' vs' ?mkA rfl hI' hne4))
        case mkA =>
          walk_at "mpU"
    · rw [nameS_mat (by omega) hm] at hb
      obtain ⟨tn1, tn2, tn3, hT⟩ := hb
      k_steps
      walk_at "nm"
      walk_at "cStmt"
      (rename Fr _ _ _ _ => F'); (rename News _ _ _ _ => N'); (rename IntsAre _ _ => hI')
      rw [← rowS_mat (by omega) hm, ← hrs] at hI'
      have hne4 : rl' ≠ rl := fun e => l1 (rl, rowO n vs) (by walk_at "mem") e.symm
      walk_at "nm"
      walk_at "cStmt"
      walk_at "nm"
      walk_at "cStmt"
      (rename Fr _ _ _ _ => F'); (rename News _ _ _ _ => N')
      walk_at "nm"
      refine c_cons (c_For ?_)
      k_steps
      (rename Fr _ _ _ _ => F'); (rename News _ _ _ _ => N'); (rename IsRange _ _ _ _ _ _ _ _ => hR)
      have N2 : News g₁ L' _ [(I, oI), (x2, instObj 217 dx2), (dx2, repD w.params k2 rl'), (rl', rowO n' vs'), (D', baO (lz (ws t (ps.take i)) p.2 0)), (x, instObj 217 dx), (dx, repD w.params k rl), (rl, rowO n vs)] := News.sub N' (by walk_at "subs")
      obtain ⟨J3, J3i, J3e⟩ := exJ (fun (j : Nat) (m' : Str → Option Value) (nx : List (Addr × Obj)) (G : Prop) => ∀ u5 tdv, m' = (fun y => if y = Str.ofString "turn" then u5 else if y = Str.ofString "distance" then some (.int (p.2 : Int) tdv) else if y = Str.ofString "step" then some (.ref b) else if y = Str.ofString "spare" then some (.int ((singles (ps.take i)).length : Int) tsp) else if y = Str.ofString "out" then some (.ref D') else if y = Str.ofString "own" then some (.ref x2) else mp [(Str.ofString "reps", .ref x), (Str.ofString "history", .bytes t.toArray tt), (Str.ofString "literals", .bytes (singles ps).toArray ts), (Str.ofString "steps", .ref a)] y) → nx = [(I, oI), (x2, instObj 217 dx2), (dx2, repD w.params k2 rl'), (rl', rowO n' vs'), (D', baO (lz (ws t (ps.take i)) p.2 j)), (x, instObj 217 dx), (dx, repD w.params k rl), (rl, rowO n vs)] → G)
      refine' c_forRange (n := p.1) J3 hh hR rfl (by omega) F' N2 (J3i _ _ _ fun G k => k u4 _ ?miB rfl) ?_ ?_
      case miB =>
        walk_at "mpU"
      · rintro j tj m₁ nx h₁ tk₁ I2 oI2 hj hJ3 off2 F' N'
        refine c_foldA ?_
        intro q3 hq3
        refine J3e _ _ _ _ hJ3 ?_
        clear hJ3
        rintro u5 tdv rfl rfl
        have hlz := lz_length (ws t (ps.take i)) p.2 j
        k_steps
        walk_at "nm"
        walk_at "cMeth"
        walk_at "cWith"
        have hb := ((lz (ws t (ps.take i)) p.2 j).getD (((lz (ws t (ps.take i)) p.2 j).length : Int) - (p.2 : Int)).toNat 0).toNat_lt
        walk_at "cApp"
        refine c_nil ?_
        rw [u8_toNat, Int.toNat_sub] at N'
        refine' hq3 _ _ (LoopPostX.next1 [(I, oI), (x2, instObj 217 dx2), (dx2, repD w.params k2 rl'), (rl', rowO n' vs'), (D', baO (lz (ws t (ps.take i)) p.2 (j + 1))), (x, instObj 217 dx), (dx, repD w.params k rl), (rl, rowO n vs)] rfl F' N' (by walk_at "subs") (by walk_at "offs") (J3i _ _ _ fun G k => k _ tdv ?mjB rfl))
        case mjB =>
          walk_at "mpU"
      · rintro m₁ nx h₁ tk₁ hJ3 F' N'
        refine J3e _ _ _ _ hJ3 ?_
        clear hJ3
        rintro u5 tdv rfl rfl
        refine c_nil ?_
        rw [← tellW_mat (by omega), ← hws] at N'
        have hcast : singles (ps.take (i + 1)) = singles (ps.take i) := by rw [hsg, if_neg (by omega), List.append_nil]
        rw [← hcast] at F'
        refine hq1 _ _ (LoopPostX.next1 [(x2, instObj 217 dx2), (dx2, repD w.params k2 rl'), (rl', rowO n' vs'), (D', baO (ws t (ps.take (i + 1)))), (x, instObj 217 dx), (dx, repD w.params k rl), (rl, rowO n vs)] rfl F' N' (by walk_at "subs") (by walk_at "offs") (J1i _ _ _ fun G k => k (some (.ref b)) (some (.int (p.2 : Int) tdv)) u5 tsp rl' n' vs' ?mkB rfl hI' hne4))
        case mkB =>
          walk_at "mpU"
  · rintro g₁ m₁ nx h₁ tk₁ rfl hJ1 F' N'
    refine J1e _ _ _ _ hJ1 ?_
    clear hJ1
    rintro u2 u3 u4 tsp rl3 n3 vs3 rfl rfl hI3 hne3
    have hpl := hNg.length
    rw [namesS_length] at hpl
    rw [List.take_of_length_le (by rw [List.length_map]; omega)] at N' F'
    walk_at "nm"
    walk_at "cStmt"
    walk_at "nm"
    walk_at "cStmt"
    exact hq0 _ _ (BackW.fin (mods := []) (by assumption) N (by assumption) hg' (by walk_at "modsub") fun F K => ⟨_, rfl, ret _ _ _ F K⟩)
end

/-! text S4 -/
theorem while_no {prog : Program} {w : World} {A : Around} {s : Shared} {env : Env} {test : PySem.Expr} {body orelse : List Stmt} {pos : Pos} {Q : Flow → Shared → Prop} {E : Value → Shared → Prop}
    (h : wpAny (model prog w) A (isTrue test env (eval test env)) (fun b s₂ => b = false ∧ wpAny (model prog w) A (execs orelse env) Q nE s₂) nE s) : wpAny (model prog w) A (exec (.While test body orelse pos) env) Q E s := by
  refine wpAny_While (codeAny_whileLoop (fun _ s' => s' = s) (fun n s' hs => ?_) 0 rfl)
  subst hs
  refine wpAny_mono h (fun b s₂ h₂ => ?_) fun _ _ x => x.elim
  obtain ⟨rfl, h₂⟩ := h₂
  exact wpAny_mono h₂ (fun _ _ x => x) (fun _ _ x => x.elim)
theorem ln_S4_1 : True := by
  k_with "exec While Compare cons nil" => (k_here; (with_reducible refine while_no ?_))
  trivial
section
variable {w : World} {A A₀ : Around} {s : Shared} {L : Addr} {h₀ base : Heap} {m mg mb : Str → Option Value} {loose : List Str} {mean : ExcName → Option Value} {env : Env} {outer : List Env} {Q : Value → Shared → Prop} {E : Value → Shared → Prop}
theorem cut_ok (C : Cx w A A₀ L h₀ base env outer mean mg mb loose 25 90) (F : Fr h₀ L s.heap m) {l : Int} {tl : Tok} (hl : 2 ≤ l ∧ l ≤ 9)
    (ret : ∀ h' D t' tk, Fr h₀ L h' m → Kept s.heap h' [] → s.heap.get? D = none → h'.get? D = some (listOf #[.int l t'] 1) → Q (.ref D) { s with heap := h', toks := tk }) :
    wpAny (model PySem.Challenge.rw_tg0040_01.row.prog w) A (call (.ref 266) [.int l tl]) Q E s := by
  have N : News h₀ L s.heap [] := News.nil
  walk_at "start"
  refine wpAny_call ?_
  k_dflt walk_at "enterW"
  k_steps
  · exact decide_eq_false (by omega)
  · rename News _ _ _ _ => N'
    have e := (N' _ (List.Mem.head _)).1
    have e0 := fresh_of hg' N' (List.Mem.head _) (fun _ h => nomatch h)
    exact BackW.fin (mods := []) (by assumption) N N' hg' (by walk_at "modsub") fun F K => ret _ _ _ _ F K e0 e
end

/-! text S5 -/
theorem Tups.ne {tl news : List (Addr × Obj)} {h h₀ : Heap} {L a : Addr} {o : Obj} (T : Tups tl) (N : News h₀ L h news) (ha : (a, o) ∈ news) (hs : ∀ p ∈ tl, p ∈ news) (hc : o.cls ≠ .type "tuple") : ∀ p ∈ tl, p.1 ≠ a := T.off N hs ha hc
/-- the named steps' tuples stand in the ledger's tail; the plain literal is the text's own -/
def NameIn (tl : List (Addr × Obj)) (a : Addr) : NS → Prop
  | .lit => a = 244
  | .mat d l => ∃ t u v, (a, ({ cls := .type "tuple", data := .seq #[.str (Str.ofString "match") t, .int (d : Int) u, .int (l : Int) v] } : Obj)) ∈ tl
  | .rep i l => ∃ t u v, (a, ({ cls := .type "tuple", data := .seq #[.str (Str.ofString "rep") t, .int (i : Int) u, .int (l : Int) v] } : Obj)) ∈ tl
def NamesIn (tl : List (Addr × Obj)) : List Addr → List NS → Prop
  | a :: as, p :: ps => NameIn tl a p ∧ NamesIn tl as ps
  | [], [] => True
  | _, _ => False
theorem NameIn.mono {tl tl' : List (Addr × Obj)} (h : ∀ p ∈ tl, p ∈ tl') {a : Addr} : ∀ {n : NS}, NameIn tl a n → NameIn tl' a n
  | .lit, x => x
  | .mat _ _, ⟨t, u, v, x⟩ => ⟨t, u, v, h _ x⟩
  | .rep _ _, ⟨t, u, v, x⟩ => ⟨t, u, v, h _ x⟩
theorem NamesIn.mono {tl tl' : List (Addr × Obj)} (h : ∀ p ∈ tl, p ∈ tl') : ∀ {as : List Addr} {ns : List NS}, NamesIn tl as ns → NamesIn tl' as ns
  | [], [], _ => trivial
  | _ :: _, _ :: _, ⟨x, r⟩ => ⟨x.mono h, NamesIn.mono h r⟩
theorem NamesIn.snoc {tl : List (Addr × Obj)} {a : Addr} {p : NS} (x : NameIn tl a p) : ∀ {as : List Addr} {ps : List NS}, NamesIn tl as ps → NamesIn tl (as ++ [a]) (ps ++ [p])
  | [], [], _ => ⟨x, trivial⟩
  | _ :: _, _ :: _, ⟨y, r⟩ => ⟨y, NamesIn.snoc x r⟩
theorem NameIn.at {P : Params} {tl : List (Addr × Obj)} {h : Heap} (X : (hd.heap_1 P).In h) (k : ∀ p ∈ tl, h.get? p.1 = some p.2) {a : Addr} : ∀ {n : NS}, NameIn tl a n → NamedAt h a n
  | .lit, x => by subst x; exact lit_tup X
  | .mat _ _, ⟨t, u, v, x⟩ => ⟨t, u, v, _, k _ x, rfl, _, rfl⟩
  | .rep _ _, ⟨t, u, v, x⟩ => ⟨t, u, v, _, k _ x, rfl, _, rfl⟩
theorem NamesIn.at {P : Params} {tl : List (Addr × Obj)} {h : Heap} (X : (hd.heap_1 P).In h) (k : ∀ p ∈ tl, h.get? p.1 = some p.2) : ∀ {as : List Addr} {ns : List NS}, NamesIn tl as ns → NamesAt h as ns
  | [], [], _ => trivial
  | _ :: _, _ :: _, ⟨x, r⟩ => ⟨x.at X k, NamesIn.at X k r⟩
theorem NamesIn.length {tl : List (Addr × Obj)} : ∀ {as : List Addr} {ps : List NS}, NamesIn tl as ps → as.length = ps.length
  | [], [], _ => rfl
  | _ :: _, _ :: _, ⟨_, r⟩ => by rw [List.length_cons, List.length_cons, NamesIn.length r]
theorem namesS_snoc {row : List Int} {ps : List (Nat × Nat)} {i : Nat} {p : Nat × Nat} (h : ps[i]? = some p) : namesS row (ps.take (i + 1)) = namesS row (ps.take i) ++ [nameS (rowsS row (ps.take i)) p] := by
  rw [← namesS_take, List.take_add_one, namesS_take, namesS_get h]; rfl

/-! text S7 -/
theorem kf_ints_of {vs : List Value} {ns : List Int} (h : IntsAre vs ns) : kf_ints vs = true := by
  induction h with
  | nil => rfl
  | cons n t _ ih => unfold kf_ints; exact ih
theorem kf_at_of {vs : List Value} {ns : List Int} (h : IntsAre vs ns) {k : Int} (hk : k ∈ ns) : kf_at k vs = some (ns.idxOf k) := by
  induction h with
  | nil => cases hk
  | @cons n t vs ns _ ih =>
    unfold kf_at
    by_cases e : n = k
    · subst e; simp [isInt]
    · have hk' : k ∈ ns := by rcases List.mem_cons.mp hk with h | h; exact absurd h.symm e; exact h
      have e1 : (n == k) = false := beq_eq_false_iff_ne.mpr e
      rw [List.idxOf_cons, ih hk', show isInt k (.int n t) = false from e1, e1]
      rfl
section
variable {prog : Program} {w : World} {A : Around} {E : Value → Shared → Prop} {s : Shared} {h₀ : Heap} {L b rl : Addr} {m : Str → Option Value} {news : List (Addr × Obj)} {Q : Value → Shared → Prop} {n : Nat} {vs : List Value} {row : List Int} {d : Int} {t : Tok}
theorem in_row (N : News h₀ L s.heap news) (hm : (rl, rowO n vs) ∈ news) (hI : IntsAre vs row) (hd : d ∈ row) (q : Q (.bool true) s) : wpAny (model prog w) A (compareOp .In (.int d t) (.ref rl)) Q E s :=
  in_list_ints ⟨_, (N _ hm).1, rfl, _, rfl⟩ hI (by rw [List.any_eq_true.mpr ⟨d, hd, by simp⟩]; exact q)
theorem notin_row (N : News h₀ L s.heap news) (hm : (rl, rowO n vs) ∈ news) (hI : IntsAre vs row) (hd : ¬ d ∈ row) (q : Q (.bool false) s) : wpAny (model prog w) A (compareOp .In (.int d t) (.ref rl)) Q E s :=
  in_list_ints ⟨_, (N _ hm).1, rfl, _, rfl⟩ hI (by rw [List.any_eq_false.mpr fun y hy => by simp; exact fun e => hd (e ▸ hy)]; exact q)
theorem index_row (N : News h₀ L s.heap news) (hm : (rl, rowO n vs) ∈ news) (hI : IntsAre vs row) (hl : row.length = 4) (hd : d ∈ row) (q : ∀ t k, Q (.int ((row.idxOf d : Nat) : Int) t) { s with toks := k }) : wpAny (model prog w) A (call (.builtin "list.index") [.ref rl, .int d t]) Q E s :=
  kf_index N hm (kf_ints_of hI) (kf_at_of hI hd) rfl (by rw [hI.length, hl, sizeLine_eq]; decide) (q _ _)
end

/-! text J1 -/
/-- the jar: great, one, two, the picks so far; then the bool -/
structure J4 where
  (t1 t2 t3 t4 : Tok)
abbrev jarO (n : Nat) (τ : J4) (g o t c : Int) (b : Bool) : Obj := listOf #[.int g τ.t1, .int o τ.t2, .int t τ.t3, .int c τ.t4, .bool b] n
/-- a pick: what is told, the great number left, the count -/
def pickV (g o t c k : Int) : Int := if g > 0 then g.fmod k else ((o + t * (c + 1) + 7 * (c + 1) * (c + 1)).fmod 1021).fmod k
def pickG (g k : Int) : Int := if g > 0 then g.fdiv k else g
def pickC (g c : Int) : Int := if g > 0 then c else c + 1
section
variable {w : World} {A A₀ : Around} {s : Shared} {L : Addr} {h₀ base : Heap} {m mg mb : Str → Option Value} {loose : List Str} {mean : ExcName → Option Value} {env : Env} {outer : List Env} {Q : Value → Shared → Prop} {E : Value → Shared → Prop} {a : Addr} {n : Nat} {τ : J4} {g o t c : Int} {b : Bool}
theorem pick_ok (C : Cx w A A₀ L h₀ base env outer mean mg mb loose 25 90) (F : Fr h₀ L s.heap m) (N : News h₀ L s.heap [(a, jarO n τ g o t c b)]) {k : Int} {tk : Tok} (hk : 1 ≤ k ∧ k ≤ 100000) (hg : g < 10 ^ 60) (ho : 0 ≤ o ∧ o < 1021) (ht : 0 ≤ t ∧ t < 1021) (hc : 0 ≤ c ∧ c ≤ 1000)
    (ret : ∀ h' n' τ' v tv tk', v = pickV g o t c k → Fr h₀ L h' m → Kept s.heap h' [a] → h'.get? a = some (jarO n' τ' (pickG g k) o t (pickC g c) b) → Q (.int v tv) { s with heap := h', toks := tk' }) :
    wpAny (model PySem.Challenge.rw_tg0040_01.row.prog w) A (call (.ref 374) [.ref a, .int k tk]) Q E s := by
  walk_at "start"
  refine wpAny_call ?_
  k_dflt walk_at "enterW"
  (try dsimp only [jarO] at N')
  k_steps
  · rename News _ _ _ _ => N'
    try dsimp only
    have hp : g > 0 := by omega
    exact BackW.fin (mods := [a]) (by assumption) N N' hg' (by walk_at "modsub") fun F K => ret _ n ⟨_, τ.t2, τ.t3, τ.t4⟩ _ _ _ (by rw [pickV, if_pos hp]) F K (by rw [pickG, if_pos hp, pickC, if_pos hp]; exact N'.get (List.Mem.head _))
  · rename News _ _ _ _ => N'
    try dsimp only
    have hp : ¬ g > 0 := by omega
    have e := (N' _ (List.Mem.head _)).1
    try dsimp only at e
    generalize ht4 : (_ + 1 + 1 : Nat) = t4 at e
    exact BackW.fin (mods := [a]) (by assumption) N N' hg' (by walk_at "modsub") fun F K => ret _ n ⟨τ.t1, τ.t2, τ.t3, t4⟩ _ _ _ (by rw [pickV, if_neg hp]) F K (by rw [pickG, if_neg hp, pickC, if_neg hp]; exact e)
end

/-! text J2 -/
theorem ints_get {vs : List Value} {ns : List Int} (h : IntsAre vs ns) : ∀ {i : Nat} {v : Value}, vs[i]? = some v → ∃ n t, v = .int n t := by
  induction h with
  | nil => intro i v e; cases e
  | cons n t _ ih =>
    intro i v e
    cases i with
    | zero => cases e; exact ⟨_, _, rfl⟩
    | succ i => exact ih e
theorem fm_range (x : Int) {k : Int} (hk : 0 < k) : 0 ≤ x.fmod k ∧ x.fmod k < k := by
  rw [Int.fmod_eq_emod_of_nonneg x (Int.le_of_lt hk)]
  exact ⟨Int.emod_nonneg _ (by omega), Int.emod_lt_of_pos _ hk⟩
section
variable {w : World} {A A₀ : Around} {s : Shared} {L : Addr} {h₀ base : Heap} {m mg mb : Str → Option Value} {loose : List Str} {mean : ExcName → Option Value} {env : Env} {outer : List Env} {Q : Value → Shared → Prop} {E : Value → Shared → Prop} {a : Addr} {vs : List Value} {ns : List Int}
theorem jar_ok (C : Cx w A A₀ L h₀ base env outer mean mg mb loose 25 90) (F : Fr h₀ L s.heap m) (hl : s.heap.IsList a vs.toArray) (hi : IntsAre vs ns) (hn : ns.length ≤ 63)
    (ret : ∀ h' D n' τ' g o t b tk', (0 ≤ g ∧ g < 10 ^ 60) → (0 ≤ o ∧ o < 1021) → (0 ≤ t ∧ t < 1021) → Fr h₀ L h' m → Kept s.heap h' [] → s.heap.get? D = none → h'.get? D = some (jarO n' τ' g o t 0 b) → Q (.ref D) { s with heap := h', toks := tk' }) :
    wpC (model PySem.Challenge.rw_tg0040_01.row.prog w) A (call (.ref 367) [.ref a]) Q s := by
  have N : News h₀ L s.heap [] := News.nil
  walk_at "start"
  refine c_call ?_
  k_dflt walk_at "enterC"
  refine c_fold ?_
  intro q0 hq0
  obtain ⟨ol, hol, hc, nn, hd⟩ := hl
  have hol' := hg' _ _ hol List.not_mem_nil
  have hl' : g'.IsList a vs.toArray := ⟨ol, hol', hc, nn, hd⟩
  have hlv := hi.length
  walk_at "nm"
  walk_at "cStmt"
  walk_at "nm"
  refine c_cons (c_For ?_)
  k_steps
  (rename Fr _ _ _ _ => F'); (rename News _ _ _ _ => N'); (rename IntsAre _ _ => hI')
  rename Addr => D
  rename List Value => ws
  obtain ⟨J1, J1i, J1e⟩ := exJ (fun (i : Nat) (m' : Str → Option Value) (nx : List (Addr × Obj)) (G : Prop) => ∀ u g o t t1 t2 t3, m' = (fun y => if y = Str.ofString "cell" then u else if y = Str.ofString "two" then some (.int t t3) else if y = Str.ofString "one" then some (.int o t2) else if y = Str.ofString "great" then some (.int g t1) else mp [(Str.ofString "script", .ref a)] y) → nx = [(D, listOf ws.toArray 0)] → (0 ≤ g ∧ g < 10 ^ 60) → (0 ≤ o ∧ o < 1021) → (0 ≤ t ∧ t < 1021) → G)
  refine c_forListX (l := _) (· = g') J1 hh rfl F' (fun p hp => N' p (by rw [List.mem_singleton.mp hp]; exact List.Mem.head _)) (ol := listOf ws.toArray 0) (vs := ws) rfl rfl (fun i g₁ m nx h _ hJ _ N => by refine J1e _ _ _ _ hJ ?_; rintro _ _ _ _ _ _ _ _ rfl; intros; exact (N _ (List.Mem.head _)).1) (J1i _ _ _ fun G k => k none 0 13 11 _ _ _ (by walk_at "mpU") rfl (by decide) (by decide) (by decide)) ?_ ?_
  · rintro i v g₁ m₁ nx h₁ tk₁ I oI hi hv rfl hJ1 off F' N'
    refine c_foldA ?_
    intro q1 hq1
    refine J1e _ _ _ _ hJ1 ?_
    clear hJ1
    rintro u g o t t1 t2 t3 rfl rfl hg ho ht
    obtain ⟨cell, tc, rfl⟩ := ints_get hI' hv
    k_steps
    by_cases h0 : g = 0
    · repeat' (walk_at "cStmt")
      (rename Fr _ _ _ _ => F'); (rename News _ _ _ _ => N')
      try dsimp only at F'
      refine' hq1 _ _ (LoopPostX.next1 [(D, listOf ws.toArray 0)] rfl F' N' (by walk_at "subs") (by walk_at "offs") (J1i _ _ _ fun G k => k (some (.int cell tc)) _ _ _ _ _ _ ?mp rfl ?g1 ?g2 ?g3))
      case mp =>
        walk_at "mpU"
      all_goals first | exact fm_range _ (by decide) | assumption
    · repeat' (walk_at "cStmt")
      (rename Fr _ _ _ _ => F'); (rename News _ _ _ _ => N')
      try dsimp only at F'
      refine' hq1 _ _ (LoopPostX.next1 [(D, listOf ws.toArray 0)] rfl F' N' (by walk_at "subs") (by walk_at "offs") (J1i _ _ _ fun G k => k (some (.int cell tc)) g _ _ t1 _ _ ?mq rfl ?g4 ?g5 ?g6))
      case mq =>
        walk_at "mpU"
      all_goals first | exact fm_range _ (by decide) | assumption
  · rintro g₁ m₁ nx h₁ tk₁ rfl hJ1 F' N'
    refine J1e _ _ _ _ hJ1 ?_
    clear hJ1
    rintro u g o t t1 t2 t3 rfl rfl hg ho ht
    walk_at "nm"
    walk_at "cStmt"
    all_goals
      rename News _ _ _ _ => N'
      try dsimp only
      have e := (N' _ (List.Mem.head _)).1
      have e0 := fresh_of hg' N' (List.Mem.head _) (fun _ h => nomatch h)
      exact hq0 _ _ (BackW.fin (mods := []) (by assumption) N N' hg' (by walk_at "modsub") fun F K => ⟨_, rfl, ret _ _ 0 ⟨_, _, _, _⟩ _ _ _ _ _ hg ho ht F K e0 e⟩)
end

section
/-! text J3 -/
theorem fdiv_range {g k : Int} (hg : 0 ≤ g) (hk : 1 ≤ k) : 0 ≤ g.fdiv k ∧ g.fdiv k ≤ g := by
  rw [Int.fdiv_eq_ediv_of_nonneg g (by omega)]
  exact ⟨Int.ediv_nonneg hg (by omega), Int.ediv_le_self k hg⟩
section
variable {w : World} {A A₀ : Around} {s : Shared} {L : Addr} {h₀ base : Heap} {m mg mb : Str → Option Value} {loose : List Str} {mean : ExcName → Option Value} {env : Env} {outer : List Env} {Q : Value → Shared → Prop} {E : Value → Shared → Prop} {a u : Addr} {n nu : Nat} {τ : J4} {g o t c : Int} {b : Bool} {vs : List Value} {us : List Int}
theorem pick_any (C : Cx w A A₀ L h₀ base env outer mean mg mb loose 25 90) (F : Fr h₀ L s.heap m) {news : List (Addr × Obj)} (N : News h₀ L s.heap news) (hm : (a, jarO n τ g o t c b) ∈ news) {k : Int} {tk : Tok} (hk : 1 ≤ k ∧ k ≤ 100000) (hg : 0 ≤ g ∧ g < 10 ^ 60) (ho : 0 ≤ o ∧ o < 1021) (ht : 0 ≤ t ∧ t < 1021) (hc : 0 ≤ c ∧ c ≤ 1000)
    (ret : ∀ h' n' τ' g' c' v tv tk', (0 ≤ v ∧ v < k) → (0 ≤ g' ∧ g' < 10 ^ 60) → (c ≤ c' ∧ c' ≤ c + 1) → Fr h₀ L h' m → Kept s.heap h' [a] → h'.get? a = some (jarO n' τ' g' o t c' b) → Q (.int v tv) { s with heap := h', toks := tk' }) :
    wpAny (model PySem.Challenge.rw_tg0040_01.row.prog w) A (call (.ref 374) [.ref a, .int k tk]) Q E s := by
  refine pick_ok C F (fun p hp => by rw [List.mem_singleton.mp hp]; exact N _ hm) hk hg.2 ho ht hc fun h' n' τ' v tv tk' hv F' K' e => ?_
  have h1 := fdiv_range hg.1 hk.1
  refine ret h' n' τ' _ _ v tv tk' ?_ ?_ ?_ F' K' e
  · rw [hv, pickV]; split <;> exact fm_range _ (by omega)
  · unfold pickG; split
    · exact ⟨h1.1, Int.lt_of_le_of_lt h1.2 hg.2⟩
    · exact hg
  · unfold pickC; split <;> omega
end
theorem ln_J3_1 : True := by
  k_with "call ref" => (k_here; (with_reducible show wpAny _ _ (call (Value.ref 374) _) _ _ _); k_dflt ((rename Fr _ _ _ _ => F'); (rename News _ _ _ _ => N'); (try dsimp only at N'); (refine pick_any (C'.mono (by omega) (by omega)) F' N' (by walk_at "mem") ?zpk (by assumption) (by assumption) (by assumption) ?zpc ?_; (case zpk => omega); (case zpc => omega)); intro h' n' τ' g' c' v' tv' tk' hv' hgr' hc' F' K' e'; (replace N' := News.put1 N' K' (by k_updF) e'); (try dsimp only at N' ⊢)))
  trivial
theorem ints_mem {vs : List Value} {ns : List Int} (h : IntsAre vs ns) {d : Int} {t : Tok} : Value.int d t ∈ vs → d ∈ ns := by
  induction h with
  | nil => intro e; cases e
  | cons n t' _ ih =>
    intro e
    rcases List.mem_cons.mp e with e | e
    · cases e; exact List.Mem.head _
    · exact List.Mem.tail _ (ih e)
section
variable {prog : Program} {w : World} {A : Around} {E : Value → Shared → Prop} {s : Shared} {h₀ : Heap} {L u l : Addr} {news : List (Addr × Obj)} {Q : Value → Shared → Prop} {n n2 : Nat} {vs : List Value} {us : List Int}
theorem ne_nil_tt (N : News h₀ L s.heap news) (hm : (u, listOf vs.toArray n) ∈ news) (hm2 : (l, listOf #[] n2) ∈ news) (hI : IntsAre vs us) (hn : us ≠ []) (hu : A.units + 64 < cLine) (q : Q (.bool true) s) : wpAny (model prog w) A (compareOp .NotEq (.ref u) (.ref l)) Q E s :=
  ne_intsK (us := []) (ms := []) ⟨_, (N _ hm).1, rfl, _, rfl⟩ hI ⟨_, (N _ hm2).1, rfl, _, rfl⟩ .nil hu (by rw [decide_eq_false hn]; exact q)
theorem ne_nil_ff (N : News h₀ L s.heap news) (hm : (u, listOf vs.toArray n) ∈ news) (hm2 : (l, listOf #[] n2) ∈ news) (hI : IntsAre vs us) (hn : us = []) (hu : A.units + 64 < cLine) (q : Q (.bool false) s) : wpAny (model prog w) A (compareOp .NotEq (.ref u) (.ref l)) Q E s :=
  ne_intsK (us := []) (ms := []) ⟨_, (N _ hm).1, rfl, _, rfl⟩ hI ⟨_, (N _ hm2).1, rfl, _, rfl⟩ .nil hu (by rw [decide_eq_true hn]; exact q)
end
section
variable {prog : Program} {w : World} {A : Around} {E : Value → Shared → Prop} {s : Shared} {h₀ : Heap} {L u : Addr} {news : List (Addr × Obj)} {Q : Value → Shared → Prop} {n : Nat} {vs : List Value} {us : List Int} {a b k : Int} {t tu : Tok} {value slice : PySem.Expr}
theorem modI (hb : 0 < b) (q : ∀ r t k, 0 ≤ r → r < b → Q (.int r t) { s with toks := k }) : wpAny (model prog w) A (binaryOp .Mod (.int a t) (.int b tu)) Q E s :=
  mod_int' (by omega) (q _ _ _ (fm_range a hb).1 (fm_range a hb).2)
theorem item_negL (N : News h₀ L s.heap news) (hm : (u, listOf vs.toArray n) ∈ news) (hI : IntsAre vs us) (hl : us.length ≤ 1000) (h0 : -(us.length : Int) ≤ k) (h1 : k < 0) (q : ∀ t, us.getD (k + us.length).toNat 0 ∈ us → Q (.int (us.getD (k + us.length).toNat 0) t) s)
    (hs : subscripted slice false (.ref u) (.int k tu) = operate [.ref u, .int k tu] (getItem (.ref u) (.int k tu)) := by with_unfolding_all rfl) (ht : ∀ r, letTemporaryGo value (.ref u) r = pure () := by intro _; with_unfolding_all rfl) :
    wpAny (model prog w) A (subscriptTail value slice (.ref u) (.int k tu)) Q E s := by
  have hL : s.heap.IsList u vs.toArray := ⟨_, (N _ hm).1, rfl, _, rfl⟩
  refine item_list_ints_neg hL hI h1 h0 (by omega) (fun t => q t ?_) hs ht
  have hlt : (k + us.length).toNat < us.length := by omega
  rw [List.getD_eq_getElem?_getD, List.getElem?_eq_getElem hlt]
  exact List.getElem_mem hlt
end
theorem ln_J3_2 : True := by
  k_with "compareOp NotEq ref ref" => (k_here; k_dflt ((rename News _ _ _ _ => N'); (first | (refine ne_nil_tt N' (by walk_at "mem") (by walk_at "mem") (by assumption) (by assumption) ?hn1 ?_; (case hn1 => have := C'.hu; omega)) | (refine ne_nil_ff N' (by walk_at "mem") (by walk_at "mem") (by assumption) (by assumption) ?hn2 ?_; (case hn2 => have := C'.hu; omega))); (try dsimp only)))
  k_with "binaryOp Mod int int" => (k_here; (with_reducible refine modI ?zmd ?_; (case zmd => (split <;> omega))); intro r' t' k' hr0 hr1; (have hr2 : r' < us.length := by (revert hr1; split <;> omega)); (try dsimp only))
  k_with "subscriptTail" => (k_here; (with_reducible show wpAny _ _ (subscriptTail _ _ (Value.ref _) (Value.int _ _)) _ _ _); k_dflt ((rename News _ _ _ _ => N'); (refine item_negL N' (by walk_at "mem") (by assumption) (by omega) ?zi0 ?zi1 ?_; (case zi0 => omega); (case zi1 => omega)); intro t' hd'; (have hdr := hus _ hd'); (try dsimp only)))
  k_with "subscriptTail Name BinOp ref int" => (k_here; (with_reducible show wpAny _ _ (subscriptTail _ _ (Value.ref _) (Value.int _ _)) _ _ _); k_dflt ((rename News _ _ _ _ => N'); (refine item_negL N' (by walk_at "mem") (by assumption) (by omega) ?zi0 ?zi1 ?_; (case zi0 => omega); (case zi1 => omega)); intro t' hd'; (have hdr := hus _ hd'); (try dsimp only)))
  k_with "my k_ne" => ((try dsimp only); first | assumption | exact Ne.symm (by assumption) | fail "k_ne: at hand")
  trivial
section
variable {w : World} {A A₀ : Around} {s : Shared} {L : Addr} {h₀ base : Heap} {m mg mb : Str → Option Value} {loose : List Str} {mean : ExcName → Option Value} {env : Env} {outer : List Env} {Q : Value → Shared → Prop} {E : Value → Shared → Prop} {a u : Addr} {n nu : Nat} {τ : J4} {g o t c : Int} {b : Bool} {vs : List Value} {us : List Int}
theorem match_ok (C : Cx w A A₀ L h₀ base env outer mean mg mb loose 35 160) (F : Fr h₀ L s.heap m) (N : News h₀ L s.heap [(a, jarO n τ g o t c b), (u, listOf vs.toArray nu)]) (hI : IntsAre vs us) (hau : a ≠ u) {sz : Int} {tz : Tok} (hsz : 1 ≤ sz ∧ sz ≤ 10000) (hus : ∀ x ∈ us, 1 ≤ x ∧ x ≤ sz) (hul : us.length ≤ 100)
    (hg : 0 ≤ g ∧ g < 10 ^ 60) (ho : 0 ≤ o ∧ o < 1021) (ht : 0 ≤ t ∧ t < 1021) (hc : 0 ≤ c ∧ c ≤ 900)
    (ret : ∀ h' n' τ' g' c' D l d tl td tk', (2 ≤ l ∧ l ≤ 9) → (1 ≤ d ∧ d ≤ sz) → (0 ≤ g' ∧ g' < 10 ^ 60) → (c ≤ c' ∧ c' ≤ c + 3) → Fr h₀ L h' m → Kept s.heap h' [a] → h'.get? a = some (jarO n' τ' g' o t c' b) → s.heap.get? D = none → h'.get? D = some (tupO2 l d tl td) → Q (.ref D) { s with heap := h', toks := tk' }) :
    wpAny (model PySem.Challenge.rw_tg0040_01.row.prog w) A (call (.ref 381) [.ref a, .int sz tz, .ref u]) Q E s := by
  walk_at "start"
  refine wpAny_call ?_
  k_dflt walk_at "enterW"
  have hlv := hI.length
  by_cases hne : us = []
  · k_steps
    all_goals
      rename News _ _ _ _ => N'
      (try dsimp only)
      have ej := N'.get (a := a) (by walk_at "mem")
      exact BackW.fin (mods := [a]) (by assumption) N N' hg' (by walk_at "modsub") fun F K => ret _ n' τ' g' c' _ _ _ _ _ _ (by omega) (by omega) (by assumption) (by omega) F K ej (fresh_of hg' N' (List.Mem.head _) (by k_all)) (N'.get (List.Mem.head _))
  · have hpos : 0 < us.length := List.length_pos_iff.mpr hne
    have hlast := hus (us.getD ((-1 : Int) + us.length).toNat 0) (by
      have hlt : ((-1 : Int) + us.length).toNat < us.length := by omega
      rw [List.getD_eq_getElem?_getD, List.getElem?_eq_getElem hlt]
      exact List.getElem_mem hlt)
    k_steps
    all_goals
      rename News _ _ _ _ => N'
      (try dsimp only)
      have ej := N'.get (a := a) (by walk_at "mem")
      exact BackW.fin (mods := [a]) (by assumption) N N' hg' (by walk_at "modsub") fun F K => ret _ n' τ' g' c' _ _ _ _ _ _ (by omega) (by omega) (by assumption) (by omega) F K ej (fresh_of hg' N' (List.Mem.head _) (by k_all)) (N'.get (List.Mem.head _))
end

end
theorem ln_again_2 : True := by
  k_with_none
  k_with "mem" => first | exact List.Mem.head _ | exact mem1 | exact mem2 | exact mem3 | exact mem4 | exact mem5 | exact mem6 | exact mem7 | exact mem8 | exact mem9 | exact mem10 | exact mem11 | exact mem12 | exact mem13 | exact mem14 | exact mem15 | exact mem16 | fail "mem: none"
  k_with "my k_room" => ((first | simp only [A9, depth_under_make, depth_under_kw, depth_in1, depth_deeper, depth_caller] | (try simp only [depth_under_make, depth_under_kw, depth_in1, depth_deeper, depth_caller])); first | omega | ((try dsimp only at hd ⊢); omega))
  k_with "enterW" => (refine' code_defW ?k1 ?k2 ?k3 ?k4 ?k5 ?kA ?kF ?kK ?k6 ?k7 ?k8 ?k9 ?kB ?_ ?c2 ?c3 ?c4 ?c5; (case kA => first | assumption | exact rfl); (case kF => first | assumption | exact rfl); (case kK => first | assumption | exact rfl); (case k1 => k_asm); (case k2 => k_asm); (case k3 => k_asm); (case k4 => k_asm); (case k5 => k_asm); (case k6 => k_is); (case k7 => k_is); (case k8 => k_room); (case k9 => first | exact BindsTo.of_eq rfl | exact binds_K (by k_in) rfl (by k_is) rfl rfl rfl | fail "enter: the arguments"); (case c5 => decide); (case kB => exact locs rfl); (case c2 => exact rfl); (case c3 => exact rfl); (case c4 => exact rfl); k_whole; intro g' L' h' F' N' B' X' T' hg'; (refine Cx.useL B' X' T' hA hh hd hu rfl rfl ?_; intro e9 A9 C'); (try dsimp only [winEs] at N'); (try dsimp only); (try k_fold))
  k_with "call builtin:len" => (k_here; (with_reducible show wpAny _ _ (call (Value.builtin "len") [Value.ref _]) _ _ _); k_dflt ((refine len_baN (by k_asm) (by walk_at "mem") ?z ?_; (case z => omega)); intro _ _; (try dsimp only)))
  k_with "call builtin:len" => (k_here; (with_reducible show wpAny _ _ (call (Value.builtin "len") [Value.bytes (List.toArray _) _]) _ _ _); k_dflt ((refine lenB ?z ?_; (case z => ((try simp only [List.length_append, List.length_drop, List.length_take]); omega))); intro _ _; (try dsimp only)))
  k_with "subscriptTail" => (k_here; (with_reducible show wpAny _ _ (subscriptTail _ _ (Value.ref _) (Value.int _ _)) _ _ _); k_dflt ((refine item_baN (by k_asm) (by walk_at "mem") ?z ?h0 ?h1 ?_; (case z => omega); (case h0 => omega); (case h1 => omega)); intro _ _; (try dsimp only)))
  k_with "enterC" => (refine' code_defC ?k1 ?k2 ?k3 ?k4 ?k5 ?kA ?kF ?kK ?k6 ?k7 ?k8 ?k9 ?kB ?_ ?c2 ?c3 ?c4 ?c5; (case kA => first | assumption | exact rfl); (case kF => first | assumption | exact rfl); (case kK => first | assumption | exact rfl); (case k1 => k_asm); (case k2 => k_asm); (case k3 => k_asm); (case k4 => k_asm); (case k5 => k_asm); (case k6 => k_is); (case k7 => k_is); (case k8 => k_room); (case k9 => first | exact BindsTo.of_eq rfl | exact binds_K (by k_in) rfl (by k_is) rfl rfl rfl | fail "enter: the arguments"); (case c5 => decide); (case kB => exact locs rfl); (case c2 => exact rfl); (case c3 => exact rfl); (case c4 => exact rfl); k_whole; intro g' L' h' F' N' B' X' T' hg'; (refine Cx.useCL B' X' T' hA hh hd hu rfl rfl ?_; intro e9 A9 C'); (try dsimp only [winEs] at N'); (try dsimp only); (try k_fold))
  k_with "getMethod ref" => (k_here; (with_reducible show wpAny _ _ (getMethod (Value.ref _) (PySem.Str.ofString "append") _) _ _ _); k_dflt ((refine method_baN BF.slot_bytearray_append BF.type_bytearray_append (by k_asm) (by walk_at "mem") ?_)))
  k_with "cStmt" => ((try dsimp only); (first | with_reducible refine c_consA ?_ | with_reducible refine c_nil ?_ | refine c_consA ?_ | refine c_nil ?_); (try dsimp only); (try k_fold); k_steps)
  k_with "cMeth" => ((try dsimp only); (refine c_cons (c_Expr (c_CallAttr ?_))); (try dsimp only); k_steps)
  k_with "cWith" => ((try dsimp only); (first | (refine' c_callK ?X ?hk ?_; (case X => k_asm); (case hk => k_is)) | (refine' c_callK0 ?X ?hk ?_; (case X => exact Frag.In.keeps (by k_asm) (Fr.keep (by k_asm))); (case hk => k_is)) | (refine c_callB (by rfl) ?_) | (refine c_callB0 (by rfl) ?_)); (try dsimp only); k_steps; (try simp only [List.cons_append, List.nil_append]))
  k_with "cApp" => ((try dsimp only); (rename Fr _ _ _ _ => F'); (rename News _ _ _ _ => N'); (refine append_baN F' N' (by k_updF) ?z ?hx ?_; (case z => omega); (case hx => omega)); intro h' F' N'; (try dsimp only at N' ⊢))
  k_with "my k_ne" => ((refine ne_of_objs (by assumption) (by walk_at "mem") (by walk_at "mem") ?_); first | (exact fun h => absurd (Value.type.inj h) (by decide)) | (exact fun h => Value.noConfusion h) | fail "k_ne: objs")
  k_with "backs" => first | exact List.forall_mem_nil _ | (refine fmc ⟨_, by walk_at "mem"⟩ ?_; walk_at "backs")
  k_with "subs" => first | exact List.forall_mem_nil _ | (refine fmc (by walk_at "mem") ?_; walk_at "subs")
  k_with "modsub" => first | exact List.forall_mem_nil _ | (refine fmc (by first | exact .inl (by walk_at "mem") | exact .inr (by walk_at "mem")) ?_; walk_at "modsub")
  k_with "setItem ref int" => (k_here; (with_reducible show wpAny _ _ (setItem (Value.ref _) (Value.int _ _) (Value.int _ _)) _ _ _); k_dflt ((rename Fr _ _ _ _ => F'); (rename News _ _ _ _ => N'); (refine set_baN F' N' (by k_updF) ?z ?h0 ?h1 ?hx ?_; (case z => omega); (case h0 => omega); (case h1 => omega); (case hx => omega)); intro h' F' N'; (try dsimp only at N' ⊢)))
  k_with "my k_ne" => first | exact offL (by assumption) (by walk_at "mem") | exact offR (by assumption) (by walk_at "mem") | fail "k_ne: off"
  k_with "offs" => first | exact List.forall_mem_nil _ | (refine fmc (by k_ne) ?_; walk_at "offs")
  k_with "mpeq" => (funext y; (repeat' split) <;> first | rfl | contradiction | (subst_vars; with_unfolding_all rfl) | (subst_vars; contradiction) | (simp_all; done))
  k_with "call type:bytes" => (k_here; (with_reducible show wpAny _ _ (call (Value.type "bytes") [Value.ref _]) _ _ _); k_dflt ((refine bytes_baN (by k_asm) (by walk_at "mem") ?z ?_; (case z => ((try simp only [List.length_append, List.length_drop, List.length_take]); omega))); intro _ _; (try dsimp only)))
  k_with "subscriptTail" => (k_here; (with_reducible show wpAny _ _ (subscriptTail _ (Expr.Slice _ _ none _) (Value.ref _) (Value.ref _)) _ _ _); k_dflt ((rename Fr _ _ _ _ => F'); (rename News _ _ _ _ => N'); (refine slice_baN (s := ⟨_, _, _, _, _⟩) F' N' (by walk_at "mem") ?z (by constructor) (by constructor) ?_; (case z => ((try simp only [List.length_append, List.length_drop, List.length_take]); omega))); intro D' h' F' N' l1; (try k_lt l1); (try dsimp only at N' ⊢); (try simp only [cutB_from, cutB_to] at N')))
  k_with "binaryOp Add" => (k_here; (with_reducible show wpAny _ _ (binaryOp Operator.Add (Value.ref _) (Value.ref _)) _ _ _); k_dflt ((rename Fr _ _ _ _ => F'); (rename News _ _ _ _ => N'); (refine add_baN F' N' (by walk_at "mem") (by walk_at "mem") ?z ?_; (case z => ((try simp only [List.length_append, List.length_drop, List.length_take]); omega))); intro D' h' F' N' l1; (try k_lt l1); (try dsimp only at N' ⊢)))
  k_with "subscriptTail" => (k_here; (with_reducible show wpAny _ _ (subscriptTail _ (Expr.Slice _ _ none _) (Value.bytes (List.toArray _) _) (Value.ref _)) _ _ _); k_dflt ((rename Fr _ _ _ _ => F'); (rename News _ _ _ _ => N'); (refine sliceB (s := ⟨_, _, _, _, _⟩) F' N' ?z (by constructor) (by constructor) ?_; (case z => ((try simp only [List.length_append, List.length_drop, List.length_take]); omega))); intro h' tt' tk' F' N'; (try dsimp only)))
  k_with "subscriptTail" => (k_here; (with_reducible show wpAny _ _ (subscriptTail _ _ (Value.bytes (List.toArray _) _) (Value.int _ _)) _ _ _); k_dflt ((first | (refine itemB ?z ?h0 ?h1 ?_; (case z => ((try simp only [List.length_append, List.length_drop, List.length_take]); omega)); (case h0 => omega); (case h1 => omega)) | (refine itemBneg ?z ?h0 ?h1 ?_; (case z => ((try simp only [List.length_append, List.length_drop, List.length_take]); omega)); (case h0 => ((try simp only [List.length_append, List.length_drop, List.length_take]); omega)); (case h1 => omega))); intro _ _; (try dsimp only)))
  k_with "start" => (obtain ⟨B, X, T, hA, hf, hke, hh, hd, hu⟩ := C; obtain ⟨hdl, dp, fr, gd, un⟩ := A; (dsimp only at hA hh); subst hA; subst hh; (have hA : Around.frames ⟨none, dp, some (env :: outer), gd, un⟩ = some (env :: outer) := rfl); (have hh : Around.handled ⟨none, dp, some (env :: outer), gd, un⟩ = none := rfl); revert X; k_fill; intro X)
  k_with "upd" => first | (apply Upd.cons; walk_at "upd") | exact Upd.nil
  k_with "alleq" => first | exact AllEq.nil | (refine AllEq.cons (by with_unfolding_all rfl) ?_; walk_at "alleq")
  k_with "mpU" => (refine' mapEq ?U1 ?U2 ?e1 ?e2; (case U1 => walk_at "upd"); (case U2 => walk_at "upd"); (case e1 => walk_at "alleq"); (case e2 => walk_at "alleq"))
  k_with "nm" => ((try (refine letC ?_; intro s9)); (try ((rename Fr _ _ _ _ => F'); refine letMap F' ?_; clear F'; intro m9 F')))
  k_with "nms" => (try (refine letC ?_; intro s9))
  k_with "execs cons" => (k_here; (with_reducible refine wpAny_execs_cons ?_); (try dsimp only); (refine letA ?_; intro s9); (try ((rename Fr _ _ _ _ => F'); refine letMap F' ?_; clear F'; intro m9 F')))
  k_with "my k_all" => first | exact List.forall_mem_nil _ | (refine fmc (by k_ne) ?_; k_all)
  k_with "my k_allIn" => first | exact List.forall_mem_nil _ | (refine fmc (by k_memK) ?_; k_allIn)
  k_with "my lcg_sub" => first | exact List.forall_mem_nil _ | (refine fmc (by k_mem) (by lcg_sub))
  k_with "my k_in" => ((rename Fr _ _ _ _ => F9); exact Frag.In.keeps X' (Fr.keep F9))
  k_with "my omega" => first | with_reducible exact Nat.le_of_ble_eq_true rfl | (law_clear; lia)
  k_with "getAttr ref" => (k_here; (with_reducible show wpAny _ _ (getAttr (Value.ref _) (PySem.Str.ofString "have") _) _ _ _); k_dflt ((rename Fr _ _ _ _ => F'); (rename News _ _ _ _ => N'); (refine have_get (C'.mono (by omega) (by omega)) F' (News.three N' (by walk_at "mem") (by walk_at "mem") (by walk_at "mem")) ?z ?_; (case z => omega)); intro h' t' tk' F' K'; (replace N' := Kept.news K' N' (fun _ h => h) (fun _ _ h => nomatch h)); (try dsimp only at N')))
  k_with "call ref" => (k_here; (with_reducible show wpAny _ _ (call (Value.ref 128) _) _ _ _); k_dflt ((rename Fr _ _ _ _ => F'); (rename News _ _ _ _ => N'); (refine need_ok (C'.mono (by omega) (by omega)) F' (News.three N' (by walk_at "mem") (by walk_at "mem") (by walk_at "mem")) ?z ?z2 ?_; (case z => omega); (case z2 => omega)); intro h' tk' F' K'; (replace N' := Kept.news K' N' (fun _ h => h) (fun _ _ h => nomatch h)); (try dsimp only at N')))
  k_with "cPut" => ((try dsimp only); (rename Fr _ _ _ _ => F'); (rename News _ _ _ _ => N'); (refine put_win (C'.mono (by omega) (by omega)) F' N' (by walk_at "mem") (by walk_at "mem") (by walk_at "mem") ?hw ?ho ?_; (case hw => omega); (case ho => omega)); intro h' τ' tk' F' K' e1 e2; (replace N' := News.put2 N' K' (by k_updF) e1 (by k_updF) e2); (try dsimp only at N' ⊢))
  k_with "call ref" => (k_here; (with_reducible show wpAny _ _ (call (Value.ref 135) _) _ _ _); k_dflt ((rename Fr _ _ _ _ => F'); (rename News _ _ _ _ => N'); (refine at_win (C'.mono (by omega) (by omega)) F' N' (by walk_at "mem") (by walk_at "mem") (by walk_at "mem") ?z ?z2 ?_; (case z => omega); (case z2 => omega)); intro h' tt' tk' F' K'; (replace N' := Kept.news K' N' (fun _ h => h) (fun _ _ h => nomatch h)); (try dsimp only at N')))
  k_with "cNewBA0" => ((try dsimp only); (rename Fr _ _ _ _ => F'); (rename News _ _ _ _ => N'); (refine new_baN (v := none) F' N' (fun _ h => nomatch h) ?_); intro D' h' F' N' l1; (try k_lt l1); (try dsimp only [baL] at N' ⊢))
  k_with "call ref" => (k_here; (with_reducible show wpAny _ _ (call (Value.ref 149) _) _ _ _); k_dflt ((rename Fr _ _ _ _ => F'); (rename News _ _ _ _ => N'); (refine octets_win (C'.mono (by omega) (by omega)) F' N' (by walk_at "mem") (by walk_at "mem") (by walk_at "mem") ?z ?_; (case z => omega)); intro h' tt' tk' F' K'; (replace N' := Kept.news K' N' (fun _ h => h) (fun _ _ h => nomatch h)); (try dsimp only at N')))
  k_with "getMethod type:ValueError" => (k_here; (refine' method_type ?F ?X excVE_meta ?st ?e ?h ?_; (case st => decide +kernel); (case F => k_asm); (case X => k_asm); (case e => k_dflt k_is); (case h => k_handed)))
  k_with "call builtin:ValueError.__init__" => (k_here; (with_reducible show wpAny _ _ (call (Value.builtin _) [Value.ref _, _]) _ _ _); k_dflt ((rename Fr _ _ _ _ => F'); (rename News _ _ _ _ => N'); (refine vinitN X' F' N' (by k_updF) ?_); intro h' t2' F' N' l1; (try k_lt l1); (try dsimp only at N' ⊢)))
  k_with "setAttr ref" => (k_here; (with_reducible show wpAny _ _ (setAttr (Value.ref _) (PySem.Str.ofString "reason") _) _ _ _); k_dflt ((rename Fr _ _ _ _ => F'); (rename News _ _ _ _ => N'); (refine set_reasonN X' F' N' (by k_updF) ?_); intro h' d' k' F' N'; (try dsimp only at N' ⊢)))
  k_with "enterR" => (refine' code_defR ?k1 ?k2 ?k3 ?k4 ?k5 ?kA ?kF ?kK ?k6 ?k7 ?k8 ?k9 ?kB ?_ ?c2 ?c3 ?c4 ?c5; (case kA => first | assumption | exact rfl); (case kF => first | assumption | exact rfl); (case kK => first | assumption | exact rfl); (case k1 => k_asm); (case k2 => k_asm); (case k3 => k_asm); (case k4 => k_asm); (case k5 => k_asm); (case k6 => k_is); (case k7 => k_is); (case k8 => k_room); (case k9 => first | exact BindsTo.of_eq rfl | exact binds_K (by k_in) rfl (by k_is) rfl rfl rfl | fail "enter: the arguments"); (case c5 => decide); (case kB => exact locs rfl); (case c2 => exact rfl); (case c3 => exact rfl); (case c4 => exact rfl); k_whole; intro g' L' h' F' N' B' X' T' FG' hg'; (refine Cx.useL B' X' T' hA hh hd hu rfl rfl ?_; intro e9 A9 C'); (try dsimp only [winEs] at N'); (try dsimp only); (try k_fold))
  k_with "exec Raise some none" => (k_here; (with_reducible show wpAny _ _ (exec (Stmt.Raise (some (Expr.Call (Expr.Name (PySem.Str.ofString "BadDistance") _) _ [] _)) none _) _) _ _ _); k_dflt (refine raise52 (P := w.params) rfl ?_))
  k_with "call ref" => (k_here; (with_reducible show wpAny _ _ (call (Value.ref 52) _) _ _ _); k_dflt ((rename Fr _ _ _ _ => F'); (rename News _ _ _ _ => N'); (refine make52N (C'.mono (by omega) (by omega)) F' N' ?_); intro h2 e2 t2 d2 tk2 F2 N2 k2 en2 tn2 he2 ht2; (dsimp only at k2 en2 tn2)))
  k_with "call ref" => (k_here; (with_reducible show wpAny _ _ (call (Value.ref 128) _) _ _ _); (with_reducible rename BadMark => bad); k_dflt ((rename Fr _ _ _ _ => F'); (rename News _ _ _ _ => N'); (try dsimp only at N'); (refine need_bad (C'.mono (by omega) (by omega)) F' (News.three N' (by walk_at "mem") (by walk_at "mem") (by walk_at "mem")) ?z ?z2 ?_; (case z => omega); (case z2 => omega)); intro g3 e3 t3 v3 h3 tk3 G3 R3 U3 hg3))
  k_with "call ref" => (k_here; (with_reducible show wpAny _ _ (call (Value.ref 135) _) _ _ _); (with_reducible rename BadMark => bad); k_dflt ((rename Fr _ _ _ _ => F'); (rename News _ _ _ _ => N'); (try dsimp only at N'); (refine at_bad (C'.mono (by omega) (by omega)) F' (News.three N' (by walk_at "mem") (by walk_at "mem") (by walk_at "mem")) ?z ?z2 ?_; (case z => omega); (case z2 => omega)); intro g3 e3 t3 v3 h3 tk3 G3 R3 U3 hg3))
  k_with "call ref" => (k_here; (with_reducible show wpAny _ _ (call (Value.ref 142) _) _ _ _); (with_reducible rename BadMark => bad); k_dflt ((rename Fr _ _ _ _ => F'); (rename News _ _ _ _ => N'); (try dsimp only at N'); (refine copy_bad (C'.mono (by omega) (by omega)) F' (News.three N' (by walk_at "mem") (by walk_at "mem") (by walk_at "mem")) ?z ?z2 ?_; (case z => omega); (case z2 => omega)); intro g3 e3 t3 v3 h3 tk3 G3 R3 U3 hg3))
  k_with "enterT" => (refine' code_defT ?k1 ?k2 ?k3 ?k4 ?k5 ?kX ?kT ?kD ?kA ?kF ?kK ?k6 ?k7 ?k8 ?k9 ?kB ?_ ?c2 ?c3 ?c4 ?c5; (case kX => exact XB); (case kT => exact TB); (case kD => exact DB); (case kA => first | assumption | exact rfl); (case kF => first | assumption | exact rfl); (case kK => first | assumption | exact rfl); (case k1 => k_asm); (case k2 => k_asm); (case k3 => exact X); (case k4 => k_asm); (case k5 => exact T); (case k6 => k_is); (case k7 => k_is); (case k8 => k_room); (case k9 => first | exact BindsTo.of_eq rfl | exact binds_K (by k_in) rfl (by k_is) rfl rfl rfl | fail "enter: the arguments"); (case c5 => decide); (case kB => exact locs rfl); (case c2 => exact rfl); (case c3 => exact rfl); (case c4 => exact rfl); k_whole; intro g' L' h' F' N' B' X' T' D' hg'; (refine Cx.useCL B' X' T' hA hh hd hu rfl rfl ?_; intro e9 A9 C'); (try dsimp only [winEs] at N'); (try dsimp only); (try k_fold))
  k_with "startT" => (obtain ⟨XB, TB, DB⟩ := G; obtain ⟨B, X, T, hA, hf, hke, hh, hd, hu⟩ := C; obtain ⟨hdl, dp, fr, gd, un⟩ := A; (dsimp only at hA hh); subst hA; subst hh; (have hA : Around.frames ⟨none, dp, some (env :: outer), gd, un⟩ = some (env :: outer) := rfl); (have hh : Around.handled ⟨none, dp, some (env :: outer), gd, un⟩ = none := rfl); revert X XB; k_fill; intro XB X)
  k_with "call ref" => (k_here; (with_reducible show wpAny _ _ (call (Value.ref 149) _) _ _ _); k_dflt ((rename Fr _ _ _ _ => F'); (rename News _ _ _ _ => N'); (refine octetsH (C'.mono (by omega) (by omega)) F' N' (by walk_at "mem") (by walk_at "mem") (by walk_at "mem") ?z hH ?_; (case z => omega)); intro h' tt' tk' F' K'; (replace N' := Kept.news K' N' (fun _ h => h) (fun _ _ h => nomatch h)); (try dsimp only at N')))
  k_with "call ref" => (k_here; (with_reducible show wpAny _ _ (call (Value.ref 156) _) _ _ _); k_dflt ((rename Fr _ _ _ _ => F'); (rename News _ _ _ _ => N'); (refine newestH (C'.mono (by omega) (by omega)) F' N' (by walk_at "mem") (by walk_at "mem") (by walk_at "mem") ?z hH ?_; (case z => omega)); intro h' tt' tk' F' K'; (replace N' := Kept.news K' N' (fun _ h => h) (fun _ _ h => nomatch h)); (try dsimp only at N')))
  k_with "compareOp NotEq bytes bytes" => (k_here; (with_reducible refine neB_same ?_); (try dsimp only))
  k_with "compareOp NotEq int int" => (k_here; (with_reducible refine neI_same ?z ?_; (case z => omega)); (try dsimp only))
  k_with "compareOp NotEq ref ref" => (k_here; k_dflt ((rename News _ _ _ _ => N'); (refine neL2 N' (by walk_at "mem") (by walk_at "mem") ?he1 ?he2 ?hun ?_; (case he1 => first | assumption | omega); (case he2 => first | assumption | omega); (case hun => have := C'.hu; omega)); (try dsimp only)))
  k_with "compareOp Eq int int" => (k_here; first | (with_reducible refine eqI_tt ?z ?_; (case z => omega); (try dsimp only)) | (with_reducible refine eqI_ff ?z ?_; (case z => omega); (try dsimp only)) | fail "eqI")
  k_with "compareOp NotEq int int" => (k_here; first | (with_reducible refine neI_tt ?z ?_; (case z => omega); (try dsimp only)) | (with_reducible refine neI_ff ?z ?_; (case z => omega); (try dsimp only)) | fail "neI")
  k_with "cNewBA" => ((try dsimp only); (rename Fr _ _ _ _ => F'); (rename News _ _ _ _ => N'); (refine new_baN (v := some (List.toArray _, _)) F' N' (fun p hp => ?_) ?_; (case refine_1 => (rw [← Option.some.inj hp, List.size_toArray, sizeLine_eq]; omega))); intro D' h' F' N' l1; (try k_lt l1); (try dsimp only [baL] at N' ⊢))
  k_with "subscriptTail Name Slice ref ref" => (k_here; (with_reducible show wpAny _ _ (subscriptTail _ (PySem.Expr.Slice _ _ none _) (Value.ref _) (Value.ref _)) _ _ _); k_dflt ((try dsimp only); (rename Fr _ _ _ _ => F'); (rename News _ _ _ _ => N'); (refine' kmk_slice_ints (s := ⟨_, _, _, _, _⟩) F' N' ?sl ?sp ?sq ?si ?sm rfl ?_ ?ss ?st ?sz; (case sl => kmk_list); (case sp => kmk_part); (case sq => kmk_part); (case si => first | assumption | l_ints); (case sm => first | exact kmk_from (by assumption) (by omega) | exact kmk_upto (by assumption) (by omega)); (case ss => with_unfolding_all rfl); (case st => kmk_pure); (case sz => (rw [List.size_toArray, sizeLine_eq]; omega))); intro D' ws' h' F' N' l1 hI' hC' hL'; (try dsimp only at N' ⊢); (try k_lt l1)))
  k_with "call builtin:len" => (k_here; (with_reducible show wpAny _ _ (call (Value.builtin "len") [Value.ref _]) _ _ _); k_dflt ((first | refine len_tup3 (by k_asm) (by assumption) ?_ | refine len_tup2 (by k_asm) (by assumption) ?_ | refine len_tup1 (by k_asm) (by assumption) ?_); intro _ _; (try dsimp only)))
  k_with "compareOp NotIn str ref" => (k_here; (with_reducible show wpAny _ _ (compareOp CmpOp.NotIn (Value.str _ _) (Value.ref 222)) _ _ _); k_dflt ((refine notin_kinds (P := w.params) (by k_asm) (by k_asm) (by decide +kernel) ?_); (try dsimp only)))
  k_with "call ref" => (k_here; (with_reducible show wpAny _ _ (call (Value.ref 229) [Value.int _ _, _]) _ _ _); k_dflt ((rename Fr _ _ _ _ => F'); (rename News _ _ _ _ => N'); (try dsimp only at N'); (refine whole_ok (C'.mono (by omega) (by omega)) F' ?_); intro h' tk' F' K'; (replace N' := Kept.news K' N' (fun _ h => h) (fun _ _ h => nomatch h)); (try dsimp only at N')))
  k_with "call ref" => (k_here; (with_reducible show wpAny _ _ (call (Value.ref 236) [Value.int _ _, Value.int _ _, Value.int _ _, _]) _ _ _); k_dflt ((rename Fr _ _ _ _ => F'); (rename News _ _ _ _ => N'); (try dsimp only at N'); (refine number_ok (C'.mono (by omega) (by omega)) F' ?z ?_; (case z => omega)); intro h' tk' F' K'; (replace N' := Kept.news K' N' (fun _ h => h) (fun _ _ h => nomatch h)); (try dsimp only at N')))
  k_with "notups" => first | exact List.forall_mem_nil _ | (refine fmc (by first | (exact fun h => Value.noConfusion h) | (exact fun h => absurd (Value.type.inj h) (by decide))) ?_; walk_at "notups")
  k_with "call ref" => (k_here; (with_reducible show wpAny _ _ (call (Value.ref 243) [Value.ref _]) _ _ _); k_dflt ((rename Fr _ _ _ _ => F'); (rename News _ _ _ _ => N'); (try dsimp only at N'); (first | (refine length_mat (C'.mono (by omega) (by omega)) F' (Fr.tup F' (by assumption)) ?zl ?_; (case zl => omega)) | (refine length_rep (C'.mono (by omega) (by omega)) F' (Fr.tup F' (by assumption)) ?zl2 ?_; (case zl2 => omega)) | (refine length_lit (C'.mono (by omega) (by omega)) F' (Fr.tup F' (by assumption)) ?_)); intro h' t' tk' F' K'; (replace N' := Kept.news K' N' (fun _ h => h) (fun _ _ h => nomatch h)); (try dsimp only at N')))
  k_with "call ref" => (k_here; (with_reducible show wpAny _ _ (call (Value.ref 207) [Value.ref _, Value.int _ _]) _ _ _); k_dflt ((rename Fr _ _ _ _ => F'); (rename News _ _ _ _ => N'); (try dsimp only at N'); (have F9 := F'); (refine rput_ok (C'.mono (by omega) (by omega)) F' (News.three N' (by walk_at "mem") (by walk_at "mem") (by walk_at "mem")) (by assumption) (by assumption) ?_); intro h' rl' n' vs' tk' F' K' fr' e1' e2' hI'; (have l1 := new_ne N' fr'); (replace N' := News.fresh1 F9 fr' e2' (News.put1 N' K' (by k_updF) e1')); clear F9; (try dsimp only at N')))
  k_with "call ref" => (k_here; (with_reducible show wpAny _ _ (call (Value.ref 200) [Value.ref _, Value.int _ _]) _ _ _); k_dflt ((rename Fr _ _ _ _ => F'); (rename News _ _ _ _ => N'); (try dsimp only at N'); (have F9 := F'); (refine ruse_ok (C'.mono (by omega) (by omega)) F' (News.three N' (by walk_at "mem") (by walk_at "mem") (by walk_at "mem")) (by assumption) (by assumption) ?zi ?_; (case zi => omega)); intro h' rl' n' vs' td' tk' F' K' fr' e1' e2' hI'; (have l1 := new_ne N' fr'); (replace N' := News.fresh1 F9 fr' e2' (News.put1 N' K' (by k_updF) e1')); clear F9; (try dsimp only at N')))
  k_with "call ref" => (k_here; (with_reducible show wpAny _ _ (call (Value.ref 214) _) _ _ _); k_dflt ((rename Fr _ _ _ _ => F'); (rename News _ _ _ _ => N'); (try dsimp only at N'); (have F9 := F'); (refine rcopy_ok (C'.mono (by omega) (by omega)) F' (News.three N' (by walk_at "mem") (by walk_at "mem") (by walk_at "mem")) (by assumption) (by assumption) ?_); intro h' x2 dx2 rl2 k2 n2 tk' F' K' e1' e2' e3' f1' f2' f3' ne1 ne2 ne3; (have l1 := new_ne N' f1'); (have l2 := new_ne N' f2'); (have l3 := new_ne N' f3'); (replace N' := News.fresh1 F9 f1' e1' (News.fresh1 F9 f2' e2' (News.fresh1 F9 f3' e3' (Kept.news K' N' (fun _ h => h) (fun _ _ h => nomatch h))))); clear F9; (try dsimp only at N')))
  k_with "call ref" => (k_here; (with_reducible show wpAny _ _ (call (Value.ref 251) [Value.ref _, Value.ref _]) _ _ _); k_dflt ((rename Fr _ _ _ _ => F'); (rename News _ _ _ _ => N'); (try dsimp only at N'); (have F9 := F'); (first | ((refine dist_mat (C'.mono (by omega) (by omega)) F' (News.three N' (by walk_at "mem") (by walk_at "mem") (by walk_at "mem")) (by assumption) (by assumption) (Fr.tup F' (by assumption)) ?zr ?_; (case zr => omega)); intro h' rl' n' vs' tk' F' K' fr' e1' e2' hI') | ((refine dist_rep (C'.mono (by omega) (by omega)) F' (News.three N' (by walk_at "mem") (by walk_at "mem") (by walk_at "mem")) (by assumption) (by assumption) (Fr.tup F' (by assumption)) ?zr2 ?zi ?_; (case zr2 => omega); (case zi => omega)); intro h' rl' n' vs' t' tk' F' K' fr' e1' e2' hI')); (have l1 := new_ne N' fr'); (replace N' := News.fresh1 F9 fr' e2' (News.put1 N' K' (by k_updF) e1')); clear F9; (try dsimp only at N')))
  k_with "call ref" => (k_here; (with_reducible show wpAny _ _ (call (Value.ref 251) [Value.ref _, Value.ref _]) _ _ _); k_dflt ((rename Fr _ _ _ _ => F'); (rename News _ _ _ _ => N'); (try dsimp only at N'); (refine dist_lit (C'.mono (by omega) (by omega)) F' (Fr.tup F' (by assumption)) ?_); intro h' t' tk' F' K'; (replace N' := Kept.news K' N' (fun _ h => h) (fun _ _ h => nomatch h)); (try dsimp only at N')))
  k_with "exec While Compare cons nil" => (k_here; (with_reducible refine while_no ?_))
  trivial
/-! text S6 -/
theorem ln_S6_1 : True := by
  k_with "my k_ne" => ((try dsimp only); first | assumption | exact Ne.symm (by assumption) | fail "k_ne: at hand")
  k_with "tailmem" => (intro p hp; (repeat (first | exact hp | refine List.Mem.tail _ ?_)); done)
  k_with "my k_all" => exact Tups.ne (by assumption) (by assumption) (by walk_at "mem") (by walk_at "tailmem") (by first | (exact fun h => Value.noConfusion h) | (exact fun h => absurd (Value.type.inj h) (by decide)))
  k_with "subs" => first | exact List.forall_mem_nil _ | (walk_at "tailmem"; done) | (refine fmc (by walk_at "mem") ?_; walk_at "subs")
  k_with "offs" => first | exact List.forall_mem_nil _ | (exact fun p hp => off p (by revert p hp; walk_at "tailmem")) | (exact fun q hq => Ne.symm (hoI q hq)) | (refine fmc (by k_ne) ?_; walk_at "offs")
  k_with "call builtin:list.append" => (k_here; (with_reducible show wpAny _ _ (call (Value.builtin "list.append") [Value.ref _, _]) _ _ _); k_dflt ((rename Fr _ _ _ _ => F'); (rename News _ _ _ _ => N'); (refine' append_K F' N' ?ap1 ?_ ?ap2; (case ap1 => k_upd); (case ap2 => (simp only [List.size_toArray, List.length_map, sizeLine_eq]; omega))); intro h' F' N'; (try dsimp only at N' ⊢)))
  k_with "compareOp In int ref" => (k_here; k_dflt ((rename News _ _ _ _ => N'); (first | refine in_row N' (by walk_at "mem") (by assumption) (by assumption) ?_ | refine notin_row N' (by walk_at "mem") (by assumption) (by assumption) ?_); (try dsimp only)))
  k_with "call builtin:list.index" => (k_here; (with_reducible show wpAny _ _ (call (Value.builtin _) [Value.ref _, Value.int _ _]) _ _ _); k_dflt ((rename News _ _ _ _ => N'); (refine index_row N' (by walk_at "mem") (by assumption) (by assumption) (by assumption) ?_); intro _ _; (try dsimp only)))
  k_with "call ref" => (k_here; (with_reducible show wpAny _ _ (call (Value.ref 266) [Value.int _ _]) _ _ _); k_dflt ((rename Fr _ _ _ _ => F'); (rename News _ _ _ _ => N'); (try dsimp only at N'); (have F9 := F'); (refine cut_ok (C'.mono (by omega) (by omega)) F' ?zc ?_; (case zc => omega)); intro h' Dc tc' tk' F' K' fr' e1'; (have l1 := new_ne N' fr'); (replace N' := News.fresh1 F9 fr' e1' (Kept.news K' N' (fun _ h => h) (fun _ _ h => nomatch h))); clear F9; (try dsimp only at N')))
  trivial
theorem map_ref_snoc {as : List Addr} {a : Addr} : (as ++ [a]).map Value.ref = as.map Value.ref ++ [Value.ref a] := by simp
section
variable {prog : Program} {w : World} {A : Around} {E : Value → Shared → Prop} {s : Shared} {h₀ : Heap} {L b T : Addr} {m : Str → Option Value} {items : Array Value} {news : List (Addr × Obj)} {Q : Value → Shared → Prop}
theorem isi_tl (F : Fr h₀ L s.heap m) (N : News h₀ L s.heap news) (hT : IsTup h₀ b items) (hm : (T, ({ cls := .type "tuple", data := .seq #[.type "tuple", .type "list"] } : Obj)) ∈ news) (q : ∀ k, Q (.bool true) { s with toks := k }) :
    wpAny (model prog w) A (call (.builtin "isinstance") [.ref b, .ref T]) Q E s :=
  IsiPair.tupleOfB (Tx := "tuple") (cs := [.type "tuple", .type "list"]) (vs := [true, false]) (.cons (Answers.of_true PySem.F.isi_meta_tuple PySem.F.isi_self_tuple) (.cons (Answers.of_false_tuple (by decide +kernel) PySem.F.isi_meta_list PySem.F.sub_tuple_list) .nil))
    (let ⟨o, ho, hc, _⟩ := hT; ⟨o, F.keep _ _ ho, hc⟩) (N.get hm) rfl q
end
theorem ln_S6_2 : True := by
  k_with "call builtin:isinstance" => (k_here; (with_reducible show wpAny _ _ (call (Value.builtin "isinstance") [Value.ref _, Value.ref _]) _ _ _); k_dflt ((rename News _ _ _ _ => N'); (refine isi_tl (by k_asm) N' (by assumption) (by walk_at "mem") ?_); intro _; (try dsimp only)))
  trivial
section
variable {w : World} {A A₀ : Around} {s : Shared} {L : Addr} {h₀ base : Heap} {m mg mb : Str → Option Value} {loose : List Str} {mean : ExcName → Option Value} {env : Env} {outer : List Env} {Q : Value → Shared → Prop} {E : Value → Shared → Prop} {R : Flow → Shared → Prop} {news : List (Addr × Obj)} {x dx rl a : Addr} {as : List Addr} {k : Tok} {n : Nat} {vs : List Value} {row : List Int} {ps : List (Nat × Nat)}
theorem plain_ok (C : Cx w A A₀ L h₀ base env outer mean mg mb loose 45 150) (F : Fr h₀ L s.heap m) (N : News h₀ L s.heap [(x, instObj 217 dx), (dx, repD w.params k rl), (rl, rowO n vs)]) (hI : IntsAre vs row) (hl : row.length = 4)
    (S : StepsAt s.heap a as ps) (hok : ∀ p ∈ ps, (p.1 = 0 ∧ p.2 < 256) ∨ (2 ≤ p.1 ∧ p.1 ≤ 9 ∧ 1 ≤ p.2 ∧ p.2 ≤ 100000)) (hcnt : ps.length ≤ 1000) (ha : a ≠ rl)
    (ret : ∀ h' D as' nn' tl tk, Fr h₀ L h' m → Kept s.heap h' [] → s.heap.get? D = none → h'.get? D = some (listOf (as'.map Value.ref).toArray nn') → Tups tl → (∀ p ∈ tl, h'.get? p.1 = some p.2) → (∀ p ∈ tl, s.heap.get? p.1 = none) → NamesIn tl as' (namesS row ps) → Q (.ref D) { s with heap := h', toks := tk }) :
    wpC (model PySem.Challenge.rw_tg0040_01.row.prog w) A (call (.ref 274) [.ref a, .ref x]) Q s := by
  walk_at "start"
  refine c_call ?_
  k_dflt walk_at "enterC"
  refine c_fold ?_
  intro q0 hq0
  obtain ⟨⟨ol, nn, hol0, hc, hd⟩, hP⟩ := S
  have hol : g'.get? a = some ol := hg' _ _ hol0 (notin3 N hol0 (by rw [hc]; exact fun h => Value.noConfusion h) (by rw [hc]; exact fun h => absurd (Value.type.inj h) (by decide)) ha)
  have hps : PairsAt g' as ps := hP.keeps fun b o e ec => hg' b o e (notin3' N e (by rw [ec]; exact fun h => Value.noConfusion h) (by rw [ec]; exact fun h => absurd (Value.type.inj h) (by decide)) (by rw [ec]; exact fun h => absurd (Value.type.inj h) (by decide)))
  walk_at "nm"
  walk_at "cStmt"
  (rename Fr _ _ _ _ => F'); (rename News _ _ _ _ => N')
  refine ((fun G k => k _ F' (News.sub N' (by walk_at "subs")) (by k_ne) (by k_ne)) : ∀ G : Prop, (∀ D, Fr g' L' _ (fun y => if y = Str.ofString "own" then some (.ref x2) else if y = Str.ofString "found" then some (.ref D) else mp [(Str.ofString "reps", .ref x), (Str.ofString "plain", .ref a)] y) → News g' L' _ ((x2, instObj 217 dx2) :: (dx2, repD w.params k2 rl2) :: (rl2, rowO n2 vs) :: (D, listOf ([].map Value.ref).toArray 0) :: (x, instObj 217 dx) :: (dx, repD w.params k rl) :: (rl, rowO n vs) :: []) → D ≠ rl2 → D ≠ rl → G) → G) _ ?_
  intro D F' N' hneD hneD2
  have hne0 : rl2 ≠ rl := fun e => l3 (rl, rowO n vs) (by walk_at "mem") e.symm
  walk_at "nm"
  refine c_cons (c_For ?_)
  k_steps
  (rename Fr _ _ _ _ => F'); (rename News _ _ _ _ => N')
  obtain ⟨J1, J1i, J1e⟩ := exJ (fun (i : Nat) (m' : Str → Option Value) (nx : List (Addr × Obj)) (G : Prop) => ∀ u1 u2 u3 u4 u5 rl2 n2 vs2 as2 nn2 tl, m' = (fun y => if y = Str.ofString "pair" then u1 else if y = Str.ofString "length" then u2 else if y = Str.ofString "distance" then u3 else if y = Str.ofString "part" then u4 else if y = Str.ofString "index" then u5 else if y = Str.ofString "own" then some (.ref x2) else if y = Str.ofString "found" then some (.ref D) else mp [(Str.ofString "reps", .ref x), (Str.ofString "plain", .ref a)] y) → nx = (x2, instObj 217 dx2) :: (dx2, repD w.params k2 rl2) :: (rl2, rowO n2 vs2) :: (D, listOf (as2.map Value.ref).toArray nn2) :: (x, instObj 217 dx) :: (dx, repD w.params k rl) :: (rl, rowO n vs) :: tl → IntsAre vs2 (rowsS row (ps.take i)) → rl2 ≠ rl → rl2 ≠ D → Tups tl → NamesIn tl as2 (namesS row (ps.take i)) → G)
  refine c_forListX (l := a) (· = g') J1 hh rfl F' N' hc hd (fun i g₁ m nx h e _ F _ => by subst e; exact F.keep _ _ hol) (J1i _ _ _ fun G k => k none none none none none rl2 n2 vs [] 0 [] ?mp0 rfl hI hne0 hneD.symm Tups.nil trivial) ?_ ?_
  case mp0 =>
    walk_at "mpU"
  clear F' N' hne0 hneD
  · rintro i v g₁ m₁ nx h₁ tk₁ I oI hi hv1 rfl hJ1 off F' N'
    refine c_foldA ?_
    intro q1 hq1
    refine J1e _ _ _ _ hJ1 ?_
    clear hJ1
    rintro u1 u2 u3 u4 u5 rl3 n3 vs3 as3 nn3 tl rfl rfl hI3 hne3 hne4 hTl hNs
    obtain ⟨b, p, t1, t2, rfl, hp, hT⟩ := hps.get hv1
    obtain ⟨ob, hob, hobc, hobd⟩ := id hT
    have hokp := hok p (List.mem_of_getElem? hp)
    have hl3 : (rowsS row (ps.take i)).length = 4 := rowsS_length hl
    have hrs := rowsS_snoc (row := row) hp
    have hns := namesS_snoc (row := row) hp
    have hal := hNs.length
    rw [namesS_length, List.length_take] at hal
    k_steps
    rcases hokp with ⟨hk1, hk2⟩ | ⟨hk1, hk2, hk3, hk4⟩
    · walk_at "cStmt"
      walk_at "nm"
      walk_at "cStmt"
      walk_at "nm"
      walk_at "cStmt"
      walk_at "nm"
      walk_at "cStmt"
      walk_at "nm"
      walk_at "cStmt"
      (rename Fr _ _ _ _ => F'); (rename News _ _ _ _ => N')
      rw [List.push_toArray, ← map_ref_snoc] at N'
      rw [← rowS_lit (p := p) hk1 (row := rowsS row (ps.take i)), ← hrs] at hI3
      have hNs2 := hNs.snoc (p := NS.lit) (a := 244) rfl
      rw [← nameS_lit (row := rowsS row (ps.take i)) hk1, ← hns] at hNs2
      refine' hq1 _ _ (LoopPostX.cont1 ((x2, instObj 217 dx2) :: (dx2, repD w.params k2 rl3) :: (rl3, rowO n3 vs3) :: (D, listOf ((as3 ++ [244]).map Value.ref).toArray (nn3 + 1)) :: (x, instObj 217 dx) :: (dx, repD w.params k rl) :: (rl, rowO n vs) :: tl) rfl F' N' (by walk_at "subs") (by walk_at "offs") (J1i _ _ _ fun G k => k (some (.ref b)) (some (.int (p.1 : Int) t1)) (some (.int (p.2 : Int) t2)) u4 u5 rl3 n3 vs3 (as3 ++ [244]) (nn3 + 1) tl ?mpL rfl hI3 hne3 hne4 hTl hNs2))
      case mpL =>
        walk_at "mpU"
    · walk_at "cStmt"
      walk_at "nm"
      walk_at "cStmt"
      walk_at "nm"
      walk_at "cStmt"
      walk_at "nm"
      walk_at "cStmt"
      walk_at "nm"
      walk_at "cStmt"
      walk_at "nm"
      walk_at "cStmt"
      walk_at "nm"
      refine c_cons (c_For ?_)
      k_steps
      (rename Fr _ _ _ _ => F'); (rename News _ _ _ _ => N')
      have N2 := News.sub N' (rest := (Dc, listOf #[.int (p.1 : Int) tc'] 1) :: (I, oI) :: (x2, instObj 217 dx2) :: (dx2, repD w.params k2 rl3) :: (rl3, rowO n3 vs3) :: (D, listOf (as3.map Value.ref).toArray nn3) :: (x, instObj 217 dx) :: (dx, repD w.params k rl) :: (rl, rowO n vs) :: tl) (by walk_at "subs")
      have hneDc1 : rl3 ≠ Dc := l1 (rl3, rowO n3 vs3) (by walk_at "mem")
      have hDDc : D ≠ Dc := l1 (D, listOf (as3.map Value.ref).toArray nn3) (by walk_at "mem")
      obtain ⟨J2, J2i, J2e⟩ := exJ (fun (j : Nat) (m' : Str → Option Value) (nx : List (Addr × Obj)) (G : Prop) => ∀ u6 u7 rl2 n2 vs2 as2 nn2 tl2, m' = (fun y => if y = Str.ofString "pair" then some (.ref b) else if y = Str.ofString "length" then some (.int (p.1 : Int) t1) else if y = Str.ofString "distance" then some (.int (p.2 : Int) t2) else if y = Str.ofString "part" then u6 else if y = Str.ofString "index" then u7 else if y = Str.ofString "own" then some (.ref x2) else if y = Str.ofString "found" then some (.ref D) else mp [(Str.ofString "reps", .ref x), (Str.ofString "plain", .ref a)] y) → nx = (Dc, listOf #[.int (p.1 : Int) tc'] 1) :: (I, oI) :: (x2, instObj 217 dx2) :: (dx2, repD w.params k2 rl2) :: (rl2, rowO n2 vs2) :: (D, listOf (as2.map Value.ref).toArray nn2) :: (x, instObj 217 dx) :: (dx, repD w.params k rl) :: (rl, rowO n vs) :: tl2 → IntsAre vs2 (if j = 0 then rowsS row (ps.take i) else rowsS row (ps.take (i + 1))) → rl2 ≠ rl → rl2 ≠ D → rl2 ≠ Dc → Tups tl2 → NamesIn tl2 as2 (if j = 0 then namesS row (ps.take i) else namesS row (ps.take (i + 1))) → (∀ q ∈ tl2, I ≠ q.1) → rl2 ≠ I → G)
      refine' c_forListX (l := Dc) (· = g₁) J2 hh rfl F' N2 (ol := listOf #[.int (p.1 : Int) tc'] 1) (vs := [.int (p.1 : Int) tc']) rfl rfl (fun j g₁ m nx h _ hJ _ N => by refine J2e _ _ _ _ hJ ?_; rintro _ _ _ _ _ _ _ _ _ rfl; intros; exact (N _ (List.Mem.head _)).1) (J2i _ _ _ fun G k => k u4 u5 rl3 n3 vs3 as3 nn3 tl ?mpM rfl hI3 hne3 hne4 hneDc1 hTl hNs (fun q hq e => off q (by clear e; revert q hq; walk_at "tailmem") e.symm) (off (rl3, rowO n3 vs3) (by walk_at "mem"))) ?_ ?_
      case mpM =>
        walk_at "mpU"
      · rintro j v g₂ m₁ nx h₁ tk₁ I2 oI2 hj hv2 rfl hJ2 off F' N'
        refine c_foldA ?_
        intro q2 hq2
        refine J2e _ _ _ _ hJ2 ?_
        clear hJ2
        rintro u6 u7 rl4 n4 vs4 as4 nn4 tl4 rfl rfl hI4 hna hnb hnc hTl4 hNs4 hoI hrI
        obtain rfl : j = 0 := by simp at hj; omega
        cases hv2
        rw [if_pos rfl] at hI4 hNs4
        have hal4 := hNs4.length
        rw [namesS_length, List.length_take] at hal4
        k_steps
        by_cases hm : (p.2 : Int) ∈ rowsS row (ps.take i)
        · have hix := List.idxOf_lt_length_iff.mpr hm
          rw [hl3] at hix
          walk_at "nm"
          walk_at "cStmt"
          try dsimp only
          refine c_nil ?_
          (rename Fr _ _ _ _ => F'); (rename News _ _ _ _ => N'); (rename IntsAre _ _ => hJ)
          rw [List.push_toArray, ← map_ref_snoc] at N'
          refine ((fun G k => k _ _ _ (News.sub N' (by walk_at "subs")) (by k_ne) (by k_ne)) : ∀ G : Prop, (∀ T tq ti, News g₂ L' _ ((I2, oI2) :: (Dc, listOf #[.int (p.1 : Int) tc'] 1) :: (I, oI) :: (x2, instObj 217 dx2) :: (dx2, repD w.params k2 rl') :: (rl', rowO n' vs') :: (D, listOf ((as4 ++ [T]).map Value.ref).toArray (nn4 + 1)) :: (x, instObj 217 dx) :: (dx, repD w.params k rl) :: (rl, rowO n vs) :: (T, ({ cls := .type "tuple", data := .seq #[.str (Str.ofString "rep") tq, .int ((List.idxOf (p.2 : Int) (rowsS row (ps.take i)) : Nat) : Int) ti, .int (p.1 : Int) tc'] } : Obj)) :: tl4) → I ≠ T → T ≠ I2 → G) → G) _ ?_
          intro T tq ti N' hT1 hT2
          rw [Int.toNat_natCast, ← rowS_rep (by omega) hm, ← hrs] at hJ
          have hN9 := (hNs4.mono (tl' := (T, ({ cls := .type "tuple", data := .seq #[.str (Str.ofString "rep") tq, .int ((List.idxOf (p.2 : Int) (rowsS row (ps.take i)) : Nat) : Int) ti, .int (p.1 : Int) tc'] } : Obj)) :: tl4) (fun _ h => List.Mem.tail _ h)).snoc (p := .rep (List.idxOf (p.2 : Int) (rowsS row (ps.take i))) p.1) (a := T) ⟨tq, ti, tc', List.Mem.head _⟩
          rw [← nameS_rep (by omega) hm, ← hns] at hN9
          have r1 : rl' ≠ rl := by k_ne
          have r2 : rl' ≠ D := by k_ne
          have r3 : rl' ≠ Dc := by k_ne
          have r4 : rl' ≠ I := by k_ne
          refine' hq2 _ _ (LoopPostX.next1 ((Dc, listOf #[.int (p.1 : Int) tc'] 1) :: (I, oI) :: (x2, instObj 217 dx2) :: (dx2, repD w.params k2 rl') :: (rl', rowO n' vs') :: (D, listOf ((as4 ++ [T]).map Value.ref).toArray (nn4 + 1)) :: (x, instObj 217 dx) :: (dx, repD w.params k rl) :: (rl, rowO n vs) :: (T, ({ cls := .type "tuple", data := .seq #[.str (Str.ofString "rep") tq, .int ((List.idxOf (p.2 : Int) (rowsS row (ps.take i)) : Nat) : Int) ti, .int (p.1 : Int) tc'] } : Obj)) :: tl4) rfl F' N' (by walk_at "subs") (by walk_at "offs") (J2i _ _ _ fun G k => k _ _ rl' n' vs' (as4 ++ [T]) (nn4 + 1) _ ?mxA rfl (by rw [if_neg (Nat.succ_ne_zero 0)]; exact hJ) r1 r2 r3 (hTl4.cons rfl) (by rw [if_neg (Nat.succ_ne_zero 0)]; exact hN9) (fmc hT1 hoI) r4))
          case mxA =>
            walk_at "mpU"
        · walk_at "cStmt"
          try dsimp only
          refine c_nil ?_
          (rename Fr _ _ _ _ => F'); (rename News _ _ _ _ => N'); (rename IntsAre _ _ => hJ)
          rw [List.push_toArray, ← map_ref_snoc] at N'
          refine ((fun G k => k _ _ _ (News.sub N' (by walk_at "subs")) (by k_ne) (by k_ne)) : ∀ G : Prop, (∀ T tq ti, News g₂ L' _ ((I2, oI2) :: (Dc, listOf #[.int (p.1 : Int) tc'] 1) :: (I, oI) :: (x2, instObj 217 dx2) :: (dx2, repD w.params k2 rl') :: (rl', rowO n' vs') :: (D, listOf ((as4 ++ [T]).map Value.ref).toArray (nn4 + 1)) :: (x, instObj 217 dx) :: (dx, repD w.params k rl) :: (rl, rowO n vs) :: (T, ({ cls := .type "tuple", data := .seq #[.str (Str.ofString "match") tq, .int (p.2 : Int) ti, .int (p.1 : Int) tc'] } : Obj)) :: tl4) → I ≠ T → T ≠ I2 → G) → G) _ ?_
          intro T tq ti N' hT1 hT2
          rw [← rowS_mat (by omega) hm, ← hrs] at hJ
          have hN9 := (hNs4.mono (tl' := (T, ({ cls := .type "tuple", data := .seq #[.str (Str.ofString "match") tq, .int (p.2 : Int) ti, .int (p.1 : Int) tc'] } : Obj)) :: tl4) (fun _ h => List.Mem.tail _ h)).snoc (p := .mat p.2 p.1) (a := T) ⟨tq, ti, tc', List.Mem.head _⟩
          rw [← nameS_mat (by omega) hm, ← hns] at hN9
          have r1 : rl' ≠ rl := by k_ne
          have r2 : rl' ≠ D := by k_ne
          have r3 : rl' ≠ Dc := by k_ne
          have r4 : rl' ≠ I := by k_ne
          refine' hq2 _ _ (LoopPostX.next1 ((Dc, listOf #[.int (p.1 : Int) tc'] 1) :: (I, oI) :: (x2, instObj 217 dx2) :: (dx2, repD w.params k2 rl') :: (rl', rowO n' vs') :: (D, listOf ((as4 ++ [T]).map Value.ref).toArray (nn4 + 1)) :: (x, instObj 217 dx) :: (dx, repD w.params k rl) :: (rl, rowO n vs) :: (T, ({ cls := .type "tuple", data := .seq #[.str (Str.ofString "match") tq, .int (p.2 : Int) ti, .int (p.1 : Int) tc'] } : Obj)) :: tl4) rfl F' N' (by walk_at "subs") (by walk_at "offs") (J2i _ _ _ fun G k => k _ _ rl' n' vs' (as4 ++ [T]) (nn4 + 1) _ ?mxB rfl (by rw [if_neg (Nat.succ_ne_zero 0)]; exact hJ) r1 r2 r3 (hTl4.cons rfl) (by rw [if_neg (Nat.succ_ne_zero 0)]; exact hN9) (fmc hT1 hoI) r4))
          case mxB =>
            walk_at "mpU"
      · rintro g₂ m₁ nx h₁ tk₁ rfl hJ2 F' N'
        refine J2e _ _ _ _ hJ2 ?_
        clear hJ2
        rintro u6 u7 rl4 n4 vs4 as4 nn4 tl4 rfl rfl hI4 hna hnb hnc hTl4 hNs4 hoI hrI
        rw [if_neg (by simp)] at hI4 hNs4
        refine c_nil ?_
        refine' hq1 _ _ (LoopPostX.next1 ((x2, instObj 217 dx2) :: (dx2, repD w.params k2 rl4) :: (rl4, rowO n4 vs4) :: (D, listOf (as4.map Value.ref).toArray nn4) :: (x, instObj 217 dx) :: (dx, repD w.params k rl) :: (rl, rowO n vs) :: tl4) rfl F' N' (by walk_at "subs") (by walk_at "offs") (J1i _ _ _ fun G k => k (some (.ref b)) (some (.int (p.1 : Int) t1)) (some (.int (p.2 : Int) t2)) u6 u7 rl4 n4 vs4 as4 nn4 tl4 ?mxD rfl hI4 hna hnb hTl4 hNs4))
        case mxD =>
          walk_at "mpU"
  · rintro g₁ m₁ nx h₁ tk₁ rfl hJ1 F' N'
    refine J1e _ _ _ _ hJ1 ?_
    clear hJ1
    rintro u1 u2 u3 u4 u5 rl3 n3 vs3 as3 nn3 tl rfl rfl hI3 hne3 hne4 hTl hNs
    have hpl := hps.length
    rw [List.take_of_length_le (by rw [List.length_map]; omega)] at hI3 hNs
    walk_at "nm"
    walk_at "cStmt"
    try dsimp only
    have hx1 := Tups.ne hTl N' (a := x) (o := instObj 217 dx) (by walk_at "mem") (by walk_at "tailmem") (fun h => Value.noConfusion h)
    have hx2 := Tups.ne hTl N' (a := dx) (o := repD w.params k rl) (by walk_at "mem") (by walk_at "tailmem") (fun h => absurd (Value.type.inj h) (by decide))
    have hx3 := Tups.ne hTl N' (a := rl) (o := rowO n vs) (by walk_at "mem") (by walk_at "tailmem") (fun h => absurd (Value.type.inj h) (by decide))
    have hD1 := fresh_of hg' N' (a := D) (o := listOf (as3.map Value.ref).toArray nn3) (by walk_at "mem") (fmc (by k_ne) (fmc (by k_ne) (fmc (by k_ne) (List.forall_mem_nil _))))
    have hD2 := (N' (D, listOf (as3.map Value.ref).toArray nn3) (by walk_at "mem")).1
    have hfr : ∀ q ∈ tl, s.heap.get? q.1 = none := fun q hq => fresh_of hg' N' (a := q.1) (o := q.2) (by revert q hq; walk_at "tailmem") (fun z hz e => by
      simp only [List.mem_cons, List.not_mem_nil, or_false] at hz
      rcases hz with rfl | rfl | rfl
      · exact hx1 q hq e.symm
      · exact hx2 q hq e.symm
      · exact hx3 q hq e.symm)
    have htl : ∀ q ∈ tl, Heap.get? _ q.1 = some q.2 := fun q hq => (N' q (by revert q hq; walk_at "tailmem")).1
    exact hq0 _ _ (BackW.fin (mods := []) F' N N' hg' (by walk_at "modsub") fun F K => ⟨_, rfl, ret _ _ as3 nn3 tl _ F K hD1 hD2 hTl htl hfr hNs⟩)
end

theorem ln_more_O2 : True := by
  k_with "call ref" => (k_here; (with_reducible show wpAny _ _ (call (Value.ref 332) _) _ _ _); k_dflt ((rename Fr _ _ _ _ => F'); (rename News _ _ _ _ => N'); (refine told_by_spec (C'.mono (by omega) (by omega)) F' (News.two N' (by walk_at "mem") (by walk_at "mem")) ?z ?z2 ?_; (case z => omega); (case z2 => omega)); intro h' D' d' p' td' tp' tk' ed' ep' F' K' fr' e'; (have l1 := new_ne N' fr'); (replace N' := News.fresh1 (by assumption) fr' e' (Kept.news K' N' (fun _ h => h) (fun _ _ h => nomatch h))); (try dsimp only at N' ⊢)))
  k_with "call ref" => (k_here; (with_reducible show wpAny _ _ (call (Value.ref 339) _) _ _ _); k_dflt ((rename Fr _ _ _ _ => F'); (rename News _ _ _ _ => N'); (refine move_spec (C'.mono (by omega) (by omega)) F' (News.two N' (by walk_at "mem") (by walk_at "mem")) ?_); intro h' τ' tk' F' K' e'; (replace N' := News.put1 N' K' (by k_updF) e'); (try dsimp only at N' ⊢)))
  trivial
theorem ln_more_J3 : True := by
  k_with "call ref" => (k_here; (with_reducible show wpAny _ _ (call (Value.ref 374) _) _ _ _); k_dflt ((rename Fr _ _ _ _ => F'); (rename News _ _ _ _ => N'); (try dsimp only at N'); (refine pick_any (C'.mono (by omega) (by omega)) F' N' (by walk_at "mem") ?zpk (by assumption) (by assumption) (by assumption) ?zpc ?_; (case zpk => omega); (case zpc => omega)); intro h' n' τ' g' c' v' tv' tk' hv' hgr' hc' F' K' e'; (replace N' := News.put1 N' K' (by k_updF) e'); (try dsimp only at N' ⊢)))
  k_with "compareOp NotEq ref ref" => (k_here; k_dflt ((rename News _ _ _ _ => N'); (first | (refine ne_nil_tt N' (by walk_at "mem") (by walk_at "mem") (by assumption) (by assumption) ?hn1 ?_; (case hn1 => have := C'.hu; omega)) | (refine ne_nil_ff N' (by walk_at "mem") (by walk_at "mem") (by assumption) (by assumption) ?hn2 ?_; (case hn2 => have := C'.hu; omega))); (try dsimp only)))
  k_with "binaryOp Mod int int" => (k_here; (with_reducible refine modI ?zmd ?_; (case zmd => (split <;> omega))); intro r' t' k' hr0 hr1; (have hr2 : r' < us.length := by (revert hr1; split <;> omega)); (try dsimp only))
  k_with "subscriptTail" => (k_here; (with_reducible show wpAny _ _ (subscriptTail _ _ (Value.ref _) (Value.int _ _)) _ _ _); k_dflt ((rename News _ _ _ _ => N'); (refine item_negL N' (by walk_at "mem") (by assumption) (by omega) ?zi0 ?zi1 ?_; (case zi0 => omega); (case zi1 => omega)); intro t' hd'; (have hdr := hus _ hd'); (try dsimp only)))
  k_with "subscriptTail Name BinOp ref int" => (k_here; (with_reducible show wpAny _ _ (subscriptTail _ _ (Value.ref _) (Value.int _ _)) _ _ _); k_dflt ((rename News _ _ _ _ => N'); (refine item_negL N' (by walk_at "mem") (by assumption) (by omega) ?zi0 ?zi1 ?_; (case zi0 => omega); (case zi1 => omega)); intro t' hd'; (have hdr := hus _ hd'); (try dsimp only)))
  k_with "my k_ne" => ((try dsimp only); first | assumption | exact Ne.symm (by assumption) | fail "k_ne: at hand")
  trivial
/-! text Q1 -/

section
variable {prog : Program} {w : World} {A A₀ : Around} {s : Shared} {K : Frag} {L : Addr} {h₀ base : Heap} {m mg mb : Str → Option Value} {news : List (Addr × Obj)} {p : Program} {loose : List Str} {mean : ExcName → Option Value}
theorem code_defWC {env : Env} {outer : List Env} {R : Result → Shared → Prop} {name qual : Str} {params : Arguments} {body : List Stmt} {scope : Scope} {dV kV doc pm cdv ct oc : Value} {an od : Option Addr} {osl : Array (Option Value)} {f : Addr} {args : Args} {binds : List (Str × Value)}
    (B : Below A₀ base outer h₀) (F : Fr h₀ L s.heap m) (X₀ : K.In h₀) (N : News h₀ L s.heap news) (T : Top p loose mean mg mb h₀) (hA : A.frames = some (env :: outer)) (hf : env.frame = some L) (hke : env.scope.kind = .function)
    (ho : K.lookup f = some ⟨oc, od, .func (fnOf name qual params body scope dV kV doc pm an cdv ct), osl⟩) (hcd : codeIn K cdv qual = true) (hroom : A.depth < recursionLimit)
    (hbind : BindsTo s (fnOf name qual params body scope dV kV doc pm an cdv ct) args binds) (hkind : (binds.all fun y => scope.names.lookup y.1 == some .local || scope.names.lookup y.1 == some .cell) = true)
    (hnd : ((cellsFrom 0 scope.names []).map (·.1)).Nodup)
    (h : ∀ g L' h₁ tk cells, Fr g L' h₁ (bindL (envOfC qual scope L' f cdv).kindOf binds fun _ => none) → News g L' h₁ (cells ++ news) →
      CellsAre (bindC (envOfC qual scope L' f cdv).kindOf binds fun _ => none) (cellsFrom (L' + 1) scope.names []) cells → Below A base (env :: outer) g → K.In g → Top p loose mean mg mb g → (∀ b o, s.heap.get? b = some o → b ∉ news.map (·.1) → g.get? b = some o) → (∀ q ∈ news, q.1 < L') → s.heap.objs.size ≤ L' →
      wpAny (model prog w) (A.deeper (envOfC qual scope L' f cdv)) (execs body (envOfC qual scope L' f cdv))
        (fun fl s' => BackW h₀ L m g R (match fl with | .ret v => v | _ => .none) s')
        (fun e s' => wpAny (model prog w) (A.deeper (envOfC qual scope L' f cdv)) (leaving (envOfC qual scope L' f cdv) e) (fun _ s'' => R (.error e) s'') (fun e' s'' => R (.error e') s'') s')
        { s with heap := h₁, toks := tk })
    (hco : scope.isCoroutine = false) (hgen : scope.isGenerator = false) (hk : scope.kind = .function) : codeAny (model prog w) A (.call (.ref f) args) R s := by
  have ho' : s.heap.get? f = _ := (X₀.keeps F.keep) _ _ ho
  have hcd' : s.heap.CodeRec cdv qual := codeRec_of (X₀.keeps F.keep) hcd
  obtain ⟨FG, BG, st, lv⟩ := groundX (R := R) B F N hA hf hke
  refine codeAny_call_function (fd := fnX name qual params body scope [] dV kV doc pm an cdv ct) hroom ho' rfl hco hgen rfl hcd' (hbind _ _ _ _ ?_)
  refine wpAny_newFunctionEnv_cells hk (kindsX hkind _) fun env' he s' x => ?_
  subst he
  refine ⟨(T.nolimit.keeps F.keep).keeps x.toInCall.keep, codeAny_func ?_⟩
  obtain ⟨h₁, tk, rfl, _⟩ := x.done
  have hk₁ := x.toInCall.keep
  obtain ⟨cells, NC, Y⟩ := Cl.news (h₀ := s.heap) (Nat.le_refl _) fun n c hm => ⟨x.cell n c (lookup_of_mem_nodup (cellsFrom_names scope.names 0 (s.heap.objs.size + 1) [] [] rfl ▸ hnd) hm), x.above n c hm⟩
  refine wpAny_mono (h _ s.heap.objs.size h₁ tk cells ⟨x.toInCall.ns, fun b o e => hk₁ b o (of_hideAll _ e), Nat.le_of_eq (hideAll_size _ _)⟩ (fun p hp => ?_) Y BG (X₀.keeps st) (T.keeps st) (fun b o e hn => hideAll_get _ e hn) (fun p hp => Heap.lt_size (N p hp).1) (Nat.le_refl _)) (fun fl s' hl => ?_) fun _ _ y => y
  · rcases List.mem_append.mp hp with hp | hp
    · refine ⟨(NC p hp).1, (NC p hp).2.1, ?_⟩
      cases q : (hideAll s.heap (news.map (·.1))).get? p.1 with
      | none => rfl
      | some o => have := of_hideAll _ q; rw [(NC p hp).2.2] at this; cases this
    · exact ⟨hk₁ _ _ (N p hp).1, Nat.ne_of_lt (Heap.lt_size (N p hp).1), hideAll_none _ (List.mem_map_of_mem hp)⟩
  · obtain ⟨L₂, m₂, F₂, k⟩ := hl
    exact lv _ _ ⟨L₂, m₂, [], F₂, News.nil, fun F₁ _ => k F₁ F₂.keep⟩

theorem codeC_call_fun {R : Flow → Shared → Prop} {a : Addr} {args : Args} {o : Obj} {fd : FuncData} {body : List Stmt} (hroom : A.depth < recursionLimit)
    (ho : s.heap.get? a = some o) (hd' : o.data = .func fd) (hbody : fd.body = .stmts body) (hcd : s.heap.CodeRec fd.code fd.qualname)
    (h : wpAny (model prog w) A.in1 (bindArgs fd args) (fun binds s₁ =>
      wpAny (model prog w) A.in1 (newFunctionEnv fd.scope fd.globals fd.closure binds (fd.qualname ++ ".<locals>.") (some a) fd.code none fd.builtins)
        (fun env s₂ => s₂.heap.NoLimit ∧ codeC (model prog w) A (.func body env) R s₂) nE s₁) nE s)
    (hco : fd.scope.isCoroutine = false := by rfl) (hgen : fd.scope.isGenerator = false := by rfl) :
    codeC (model prog w) A (.call (.ref a) args) R s := by
  refine codeC_of_tree rfl ?_
  show wpC _ A.in1 (callAny (.ref a) args) _ s
  simp only [callAny]
  refine c_bindAny (wpAny_load ho ?_)
  obtain ⟨c, oc, vs, tq, hc, hoc, hdc, hq⟩ := hcd
  simp only [hd', callFunction, hco, hgen, hbody, hc]
  rw [hc] at h
  refine c_bindAny (m := field (.ref c) 1) (wpAny_field hoc hdc hq ?_)
  refine c_bindAny (wpAny_pure ?_)
  refine c_bindAny (wpAny_mono h (fun binds s₁ h₁ => ?_) fun _ _ x => x)
  refine c_bindAny (wpAny_mono h₁ (fun env s₂ h₂ => ?_) fun _ _ x => x)
  exact c_bindAny (wpAny_enterFrame h₂.1 hroom (c_pure (And.intro rfl h₂.2)))

theorem code_defCC {env : Env} {outer : List Env} {R : Flow → Shared → Prop} {name qual : Str} {params : Arguments} {body : List Stmt} {scope : Scope} {dV kV doc pm cdv ct oc : Value} {an od : Option Addr} {osl : Array (Option Value)} {f : Addr} {args : Args} {binds : List (Str × Value)}
    (B : Below A₀ base outer h₀) (F : Fr h₀ L s.heap m) (X₀ : K.In h₀) (N : News h₀ L s.heap news) (T : Top p loose mean mg mb h₀) (hA : A.frames = some (env :: outer)) (hf : env.frame = some L) (hke : env.scope.kind = .function)
    (ho : K.lookup f = some ⟨oc, od, .func (fnOf name qual params body scope dV kV doc pm an cdv ct), osl⟩) (hcd : codeIn K cdv qual = true) (hroom : A.depth < recursionLimit)
    (hbind : BindsTo s (fnOf name qual params body scope dV kV doc pm an cdv ct) args binds) (hkind : (binds.all fun y => scope.names.lookup y.1 == some .local || scope.names.lookup y.1 == some .cell) = true)
    (hnd : ((cellsFrom 0 scope.names []).map (·.1)).Nodup)
    (h : ∀ g L' h₁ tk cells, Fr g L' h₁ (bindL (envOfC qual scope L' f cdv).kindOf binds fun _ => none) → News g L' h₁ (cells ++ news) →
      CellsAre (bindC (envOfC qual scope L' f cdv).kindOf binds fun _ => none) (cellsFrom (L' + 1) scope.names []) cells → Below A base (env :: outer) g → K.In g → Top p loose mean mg mb g → (∀ b o, s.heap.get? b = some o → b ∉ news.map (·.1) → g.get? b = some o) → (∀ q ∈ news, q.1 < L') → s.heap.objs.size ≤ L' →
      wpC (model prog w) (A.deeper (envOfC qual scope L' f cdv)) (execs body (envOfC qual scope L' f cdv))
        (fun fl s' => BackW h₀ L m g (okR R) (match fl with | .ret v => v | _ => .none) s') { s with heap := h₁, toks := tk })
    (hco : scope.isCoroutine = false) (hgen : scope.isGenerator = false) (hk : scope.kind = .function) : codeC (model prog w) A (.call (.ref f) args) R s := by
  have ho' : s.heap.get? f = _ := (X₀.keeps F.keep) _ _ ho
  have hcd' : s.heap.CodeRec cdv qual := codeRec_of (X₀.keeps F.keep) hcd
  obtain ⟨FG, BG, st, lv⟩ := groundX (R := okR R) B F N hA hf hke
  refine codeC_call_fun (fd := fnX name qual params body scope [] dV kV doc pm an cdv ct) hroom ho' rfl rfl hcd' (hbind _ _ _ _ ?_) hco hgen
  refine wpAny_newFunctionEnv_cells hk (kindsX hkind _) fun env' he s' x => ?_
  subst he
  refine ⟨(T.nolimit.keeps F.keep).keeps x.toInCall.keep, codeC_func ?_⟩
  obtain ⟨h₁, tk, rfl, _⟩ := x.done
  have hk₁ := x.toInCall.keep
  obtain ⟨cells, NC, Y⟩ := Cl.news (h₀ := s.heap) (Nat.le_refl _) fun n c hm => ⟨x.cell n c (lookup_of_mem_nodup (cellsFrom_names scope.names 0 (s.heap.objs.size + 1) [] [] rfl ▸ hnd) hm), x.above n c hm⟩
  refine c_mono (h _ s.heap.objs.size h₁ tk cells ⟨x.toInCall.ns, fun b o e => hk₁ b o (of_hideAll _ e), Nat.le_of_eq (hideAll_size _ _)⟩ (fun p hp => ?_) Y BG (X₀.keeps st) (T.keeps st) (fun b o e hn => hideAll_get _ e hn) (fun p hp => Heap.lt_size (N p hp).1) (Nat.le_refl _)) (fun fl s' hl => ?_)
  · rcases List.mem_append.mp hp with hp | hp
    · refine ⟨(NC p hp).1, (NC p hp).2.1, ?_⟩
      cases q : (hideAll s.heap (news.map (·.1))).get? p.1 with
      | none => rfl
      | some o => have := of_hideAll _ q; rw [(NC p hp).2.2] at this; cases this
    · exact ⟨hk₁ _ _ (N p hp).1, Nat.ne_of_lt (Heap.lt_size (N p hp).1), hideAll_none _ (List.mem_map_of_mem hp)⟩
  · obtain ⟨L₂, m₂, F₂, k⟩ := hl
    exact lv _ _ ⟨L₂, m₂, [], F₂, News.nil, fun F₁ _ => k F₁ F₂.keep⟩
end
theorem ln_Q1_1 : True := by
  k_with "enterWC" => (refine' code_defWC ?k1 ?k2 ?k3 ?k4 ?k5 ?kA ?kF ?kK ?k6 ?k7 ?k8 ?k9 ?kB ?kD ?_ ?c2 ?c3 ?c4; (case kA => first | assumption | exact rfl); (case kF => first | assumption | exact rfl); (case kK => first | assumption | exact rfl); (case k1 => k_asm); (case k2 => k_asm); (case k3 => k_asm); (case k4 => k_asm); (case k5 => k_asm); (case k6 => k_is); (case k7 => k_is); (case k8 => k_room); (case k9 => first | exact BindsTo.of_eq rfl | exact binds_K (by k_in) rfl (by k_is) rfl rfl rfl | fail "enter: the arguments"); (case kB => exact rfl); (case kD => decide +kernel); (case c2 => exact rfl); (case c3 => exact rfl); (case c4 => exact rfl); k_whole; intro g' L' h' tk' cells' F' N' Y' B' X' T' hg' l1' hsz'; (refine Cx.useL B' X' T' hA hh hd hu rfl rfl ?_; intro e9 A9 C'); k_cells Y'; (try simp only [List.cons_append, List.nil_append] at N'); (try dsimp only); (try k_fold))
  k_with "enterCC" => (refine' code_defCC ?k1 ?k2 ?k3 ?k4 ?k5 ?kA ?kF ?kK ?k6 ?k7 ?k8 ?k9 ?kB ?kD ?_ ?c2 ?c3 ?c4; (case kA => first | assumption | exact rfl); (case kF => first | assumption | exact rfl); (case kK => first | assumption | exact rfl); (case k1 => k_asm); (case k2 => k_asm); (case k3 => k_asm); (case k4 => k_asm); (case k5 => k_asm); (case k6 => k_is); (case k7 => k_is); (case k8 => k_room); (case k9 => first | exact BindsTo.of_eq rfl | exact binds_K (by k_in) rfl (by k_is) rfl rfl rfl | fail "enter: the arguments"); (case kB => exact rfl); (case kD => decide +kernel); (case c2 => exact rfl); (case c3 => exact rfl); (case c4 => exact rfl); k_whole; intro g' L' h' tk' cells' F' N' Y' B' X' T' hg' l1' hsz'; (refine Cx.useCL B' X' T' hA hh hd hu rfl rfl ?_; intro e9 A9 C'); k_cells Y'; (try simp only [List.cons_append, List.nil_append] at N'); (try dsimp only); (try k_fold))
  trivial

/-! text Q3 -/
section
open PyProof.Rows.LCg
section
variable {prog : Program} {w : World} {A : Around} {E : Value → Shared → Prop} {s : Shared}
theorem cp_loop {elt target iter : PySem.Expr} {ifs : List PySem.Expr} {scope : Scope} {pos : Pos} {it acc : Value} {env : Env} {R : Result → Shared → Prop} (I : Nat → Shared → Prop)
    (turn : ∀ n s, I n s → wpAny (model prog w) A (pyNext it) (fun r s₁ => match r with
      | none => R (.ok .next) s₁
      | some v => wpAny (model prog w) A (letOwnedTupleGo target it v) (fun _ s₀ => wpAny (model prog w) A (assign target env v) (fun _ s₂ =>
          wpAny (model prog w) A (forIn ifs true fun c r => if r = true then do let ok ← isTrue c env (eval c env); pure (ForInStep.yield ok) else pure (ForInStep.yield r)) (fun ok s₃ => if ok = true then wpAny (model prog w) A (eval elt env) (fun x s₄ =>
            wpAny (model prog w) A (call (.builtin "list.append") [acc, x]) (fun _ s₅ => ∃ m, m < n ∧ I m s₅) nE s₄) nE s₃
            else ∃ m, m < n ∧ I m s₃) nE s₂) nE s₀) nE s₁) nE s)
    (n : Nat) (h : I n s) : codeAny (model prog w) A (.compLoop (.ListComp elt [⟨target, iter, ifs, 0⟩] scope pos) 0 it acc env) R s := by
  refine codeAny_loop rfl I (fun n s hI => ?_) n h
  show wpAny _ A ((compTurn (.ListComp elt [⟨target, iter, ifs, 0⟩] scope pos) 0 it acc env).onRaise (fun x => do noteFrame x env; theTreesLotGoes x)) _ _ s
  refine wpAny_noted ?_
  rw [compTurn_list]
  refine wpAny_bind (wpAny_standAt (wpAny_bind (wpAny_mono (turn n s hI) (fun r s₁ h₁ => ?_) fun _ _ h' => h'.elim)))
  cases r with
  | none => exact wpAny_pure h₁
  | some v =>
    refine wpAny_bind (wpAny_mono h₁ (fun _ s₀ h₀' => ?_) fun _ _ h' => h'.elim)
    refine wpAny_bind (wpAny_mono h₀' (fun _ s₂ h₂ => ?_) fun _ _ h' => h'.elim)
    refine wpAny_bind (wpAny_mono h₂ (fun okb s₃ h₃ => ?_) fun _ _ h' => h'.elim)
    cases okb with
    | false => exact wpAny_pure ⟨rfl, h₃⟩
    | true => exact wpAny_bind (wpAny_bind (wpAny_mono h₃ (fun x s₄ h₄ => wpAny_bind (wpAny_mono h₄ (fun _ s₅ h₅ => wpAny_pure (wpAny_pure ⟨rfl, h₅⟩)) fun _ _ h' => h'.elim)) fun _ _ h' => h'.elim))
end
/-- behind a turn of a comprehension -/
def CpEnd (g : Heap) (L : Addr) (m : Str → Option Value) (s₁ : Shared) (I : Addr) (oI : Obj) (C : Addr) (oC : Obj) (D : Addr) (oD : Obj) (Jn : List (Addr × Obj) → Prop) (s₂ : Shared) : Prop :=
  ∀ G : Prop, (∀ h' tk nx', s₂ = { s₁ with heap := h', toks := tk } → Fr g L h' m → News g L h' ((I, oI) :: (C, oC) :: (D, oD) :: nx') → (∀ p ∈ nx', p.1 ≠ I ∧ p.1 ≠ C ∧ p.1 ≠ D) → Jn nx' → G) → G
theorem CpEnd.intro {g : Heap} {L I C D : Addr} {m : Str → Option Value} {s₁ : Shared} {oI oC oD : Obj} {Jn : List (Addr × Obj) → Prop} {h' : Heap} {tk : Nat} {all : List (Addr × Obj)}
    (F : Fr g L h' m) (N : News g L h' all) (nx' : List (Addr × Obj)) (sub : ∀ p ∈ (I, oI) :: (C, oC) :: (D, oD) :: nx', p ∈ all) (off : ∀ p ∈ nx', p.1 ≠ I ∧ p.1 ≠ C ∧ p.1 ≠ D) (hj : Jn nx') :
    CpEnd g L m s₁ I oI C oC D oD Jn { s₁ with heap := h', toks := tk } := fun _ k => k h' tk nx' rfl F (fun p hp => N p (sub p hp)) off hj
section
variable {prog : Program} {w : World} {A : Around} {E : Value → Shared → Prop} {s₂ : Shared} {g : Heap} {L : Addr} {m : Str → Option Value} {env : Env} {elt target iter : PySem.Expr} {ifs : List PySem.Expr} {scope : Scope} {cl : List (Str × Addr)} {pos : Pos} {ax : Addr} {ol : Obj} {vs : List Value} {nn : Nat} {news : List (Addr × Obj)}
theorem cp_step {I C D : Addr} {RR : Result → Shared → Prop} (Bd : Nat → (Str → Option Value) → Prop) (J : Nat → List Value → List (Addr × Obj) → Prop)
    (hh : A.handled = none) (hc : ol.cls = .type "list") (hd : ol.data = .seq vs.toArray nn) (hlen : vs.length ≤ 10000) (hsrc : ∀ i ys nx h, J i ys nx → Fr g L h m → News g L h nx → h.get? ax = some ol)
    (hIL : L ≠ I) (hI₀ : g.get? I = none) (hDC : D ≠ C) (hD₀ : g.get? D = none) (hC₀ : g.get? C = none) (hDL : D ≠ L) (hCL : C ≠ L) (hCI : I ≠ C) (hDI : I ≠ D)
    {h₁ : Heap} {tk₁ : Nat} {m₁ : Str → Option Value} (hII : h₁.IsListIter I ax 0) (F : Fr g L h₁ m) (hns : h₁.Ns C m₁) (N : News g L h₁ ((D, lst []) :: news)) (off : ∀ p ∈ news, p.1 ≠ I ∧ p.1 ≠ C ∧ p.1 ≠ D) (h0 : J 0 [] news)
    (bind : ∀ i v ys nx m₂ (s' : Shared) (Q : Shared → Prop), vs[i]? = some v → J i ys nx → Fr g L s'.heap m → News g L s'.heap nx → s'.heap.Ns C m₂ →
      (∀ h' tk m₃, Bd i m₃ → h'.Ns C m₃ → (∀ b o, b ≠ C → s'.heap.get? b = some o → h'.get? b = some o) → Q { s' with heap := h', toks := tk }) → wpAny (model prog w) A (assign target (compEnvC scope cl C env) v) (fun _ => Q) nE s')
    (turn : ∀ i ys nx oI oC m₃ h tk, i < vs.length → Bd i m₃ → J i ys nx → NsObj oC m₃ → (∀ p ∈ nx, p.1 ≠ I ∧ p.1 ≠ C ∧ p.1 ≠ D) → Fr g L h m → News g L h ((I, oI) :: (C, oC) :: (D, lst ys) :: nx) →
      wpAny (model prog w) A (forIn ifs true fun c r => if r = true then do let ok ← isTrue c (compEnvC scope cl C env) (eval c (compEnvC scope cl C env)); pure (ForInStep.yield ok) else pure (ForInStep.yield r)) (fun ok s₃ => if ok = true then
          wpAny (model prog w) A (eval elt (compEnvC scope cl C env)) (fun y => CpEnd g L m s₂ I oI C oC D (lst ys) (J (i + 1) (ys ++ [y]))) nE s₃
          else CpEnd g L m s₂ I oI C oC D (lst ys) (J (i + 1) ys) s₃) nE { s₂ with heap := h, toks := tk })
    (hRR : ∀ h tk m' ys nx, Fr g L h m → News g L h ((D, lst ys) :: nx) → (∀ p ∈ nx, p.1 ≠ I ∧ p.1 ≠ C ∧ p.1 ≠ D) → h.Ns C m' → J vs.length ys nx → RR (.ok .next) { s₂ with heap := h, toks := tk }) :
    codeAny (model prog w) A (.compLoop (.ListComp elt [⟨target, iter, ifs, 0⟩] scope pos) 0 (.ref I) (.ref D) (compEnvC scope cl C env)) RR { s₂ with heap := h₁, toks := tk₁ } := by
  obtain ⟨Inv, Ii, Ie⟩ := exP (fun (k : Nat) (s' : Shared) (G : Prop) => ∀ h' tk i ys m' nx, s' = { s₂ with heap := h', toks := tk } → i ≤ vs.length → k = vs.length + 1 - i → ys.length ≤ i → h'.IsListIter I ax i → Fr g L h' m → h'.Ns C m' → News g L h' ((D, lst ys) :: nx) →
        (∀ p ∈ nx, p.1 ≠ I ∧ p.1 ≠ C ∧ p.1 ≠ D) → J i ys nx → G)
  refine cp_loop Inv ?_ (vs.length + 1) (Ii _ _ fun _ q => q h₁ _ 0 [] _ news rfl (Nat.zero_le _) rfl (Nat.le_refl _) hII F hns N off h0)
  intro k s' hk
  refine Ie _ _ _ hk ?_
  intro h' tk i ys m' nx es hi ek hyl hit F' hn' N' off' hj
  subst es
  have hol : h'.get? ax = some ol := hsrc _ _ _ _ hj F' fun p hp => N' p (.tail _ hp)
  have hl' : h'.IsList ax vs.toArray := ⟨_, hol, hc, nn, hd⟩
  have offI : ∀ p ∈ (D, lst ys) :: nx, p.1 ≠ I := fmc (Ne.symm hDI) fun p hp => (off' p hp).1
  by_cases hlt : i < vs.length
  · refine wpAny_pyNext_list_item (x := vs[i]) hit hl' (by simp [hlt]) fun h₂ hit₂ hs₂ => ?_
    have hk₂ : ∀ b o, b ∉ [I] → h'.get? b = some o → h₂.get? b = some o := fun b o hb e => hs₂.extBut b o (fun q => hb (List.mem_singleton.mpr q)) e
    have F₂ : Fr g L h₂ m := fr_but F' hk₂ hIL hI₀
    have N₂ : News g L h₂ ((D, lst ys) :: nx) := news_but N' hk₂ offI
    have hn₂ : h₂.Ns C m' := hn'.at' fun o e => hk₂ _ o (fun q => hCI (List.mem_singleton.mp q).symm) e
    refine hit₂.elim fun oi hoi => ?_
    refine letGo_none hoi.1 hoi.2.1 (by decide) ?_
    refine bind i _ ys nx m' _ _ (List.getElem?_eq_getElem hlt) hj F₂ (fun p hp => N₂ p (.tail _ hp)) hn₂ fun h₃ tk₃ m₃ hB hn₃ hk₃ => ?_
    have F₃ : Fr g L h₃ m := ⟨F₂.ns.at' fun o e => hk₃ _ o (Ne.symm hCL) e, fun b o e => hk₃ b o (fun q => by rw [q, hC₀] at e; cases e) (F₂.keep b o e), F₂.above⟩
    refine (ns_obj hn₃).elim fun oC hoC => ?_
    have N₃ : News g L h₃ ((I, oi) :: (C, oC) :: (D, lst ys) :: nx) := fmc ⟨hk₃ _ _ hCI hoi.1, Ne.symm hIL, hI₀⟩ (fmc ⟨hoC.1, hCL, hC₀⟩ fun p hp => ⟨hk₃ _ _ (fmc (p := fun p : Addr × Obj => p.1 ≠ C) hDC (fun p hp => (off' p hp).2.1) p hp) (N₂ p hp).1, (N₂ p hp).2⟩)
    have fin : ∀ (ys' : List Value) (h₄ : Heap) (tk₄ : Nat) (nx₄ : List (Addr × Obj)), ys'.length ≤ i + 1 → Fr g L h₄ m → News g L h₄ ((I, oi) :: (C, oC) :: (D, lst ys') :: nx₄) → (∀ p ∈ nx₄, p.1 ≠ I ∧ p.1 ≠ C ∧ p.1 ≠ D) → J (i + 1) ys' nx₄ →
        ∃ k', k' < k ∧ Inv k' { s₂ with heap := h₄, toks := tk₄ } := fun ys' h₄ tk₄ nx₄ hy F₄ N₄ off₄ hj₄ =>
      ⟨vs.length + 1 - (i + 1), ek ▸ Nat.sub_succ_lt_self _ _ (Nat.lt_succ_of_lt hlt), Ii _ _ fun _ q => q h₄ tk₄ (i + 1) ys' m₃ nx₄ rfl hlt rfl hy ⟨oi, (N₄ _ (.head _)).1, hoi.2⟩ F₄ (hoC.2.ns (N₄ _ (.tail _ (.head _))).1)
        (fun p hp => N₄ p (.tail _ (.tail _ hp))) off₄ hj₄⟩
    refine wpAny_mono (turn i ys nx oi oC m₃ h₃ tk₃ hlt hB hj hoC.2 off' F₃ N₃) (fun ok s₄ h₄ => ?_) fun _ _ e => e
    cases ok with
    | true =>
      rw [if_pos rfl] at h₄ ⊢
      refine wpAny_mono h₄ (fun y s₅ h₅ => h₅ _ ?_) fun _ _ e => e
      intro h₄ tk₄ nx₄ es F₄ N₄ off₄ hj₄
      subst es
      refine append_at (hsz := by show ys.toArray.size ≤ sizeLine; rw [List.size_toArray, sizeLine_eq]; omega) (N₄ (D, lst ys) (.tail _ (.tail _ (.head _)))).1 fun h₅ hs₅ hD₅ => ?_
      have keep5 : ∀ q : Addr × Obj, q ∈ (I, oi) :: (C, oC) :: (D, lst ys) :: nx₄ → q.1 ≠ D → h₅.get? q.1 = some q.2 ∧ q.1 ≠ L ∧ g.get? q.1 = none := fun q hq hn => ⟨hs₅.extBut _ _ hn (N₄ q hq).1, (N₄ q hq).2⟩
      exact fin (ys ++ [y]) h₅ _ nx₄ (by rw [List.length_append, List.length_singleton]; omega) (F₄.change hs₅ hDL hD₀) (fmc (keep5 _ (.head _) hDI) (fmc (keep5 _ (.tail _ (.head _)) (Ne.symm hDC)) (fmc ⟨hD₅.trans (congrArg some (lst_snoc ys y)), hDL, hD₀⟩ fun p hp => keep5 _ (.tail _ (.tail _ (.tail _ hp))) (off₄ p hp).2.2))) off₄ hj₄
    | false =>
      rw [if_neg Bool.false_ne_true] at h₄ ⊢
      refine h₄ _ ?_
      intro h₅ tk₄ nx₄ es F₄ N₄ off₄ hj₄
      subst es
      exact fin ys h₅ tk₄ nx₄ (Nat.le_succ_of_le hyl) F₄ N₄ off₄ hj₄
  · have e : i = vs.length := Nat.le_antisymm hi (Nat.not_lt.mp hlt)
    subst e
    refine wpAny_pyNext_list_end hh hit hl' (by simp) fun h₂ he₂ => ?_
    have hk₂ : ∀ b o, b ∉ [I] → h'.get? b = some o → h₂.get? b = some o := fun b o hb e => he₂ b o (fun q => hb (List.mem_singleton.mpr q)) e
    exact hRR h₂ _ m' ys nx (fr_but F' hk₂ hIL hI₀) (news_but N' hk₂ offI) off' (hn'.at' fun o e => hk₂ _ o (fun q => hCI (List.mem_singleton.mp q).symm) e) hj
theorem cp_core {RR : Value → Addr → Result → Shared → Prop} (Bd : Nat → (Str → Option Value) → Prop) (J : Nat → List Value → List (Addr × Obj) → Prop)
    (hh : A.handled = none) (hc : ol.cls = .type "list") (hd : ol.data = .seq vs.toArray nn) (hlen : vs.length ≤ 10000)
    (hsrc : ∀ i ys nx h, J i ys nx → Fr g L h m → News g L h nx → h.get? ax = some ol) {I : Addr} (hI : s₂.heap.IsListIter I ax 0) (hne : ax ≠ I) (hIlt : I < s₂.heap.objs.size)
    (hcell : ∀ y ∈ scope.names, y.2 ≠ .cell) (hkind : scope.kind = .function) (F : Fr g L s₂.heap m) (N : News g L s₂.heap news) (hIL : L ≠ I) (hI₀ : g.get? I = none) (off : ∀ p ∈ news, p.1 ≠ I) (h0 : J 0 [] news)
    (bind : ∀ i v ys nx C m₂ (s' : Shared) (Q : Shared → Prop), vs[i]? = some v → J i ys nx → C ≠ L → Fr g L s'.heap m → News g L s'.heap nx → s'.heap.Ns C m₂ →
      (∀ h' tk m₃, Bd i m₃ → h'.Ns C m₃ → (∀ b o, b ≠ C → s'.heap.get? b = some o → h'.get? b = some o) → Q { s' with heap := h', toks := tk }) → wpAny (model prog w) A (assign target (compEnvC scope cl C env) v) (fun _ => Q) nE s')
    (turn : ∀ i ys nx I oI C oC D m₃ h tk, i < vs.length → Bd i m₃ → J i ys nx → NsObj oC m₃ → (∀ p ∈ nx, p.1 ≠ I ∧ p.1 ≠ C ∧ p.1 ≠ D) → I ≠ C → I ≠ D → C ≠ D → Fr g L h m → News g L h ((I, oI) :: (C, oC) :: (D, lst ys) :: nx) →
      wpAny (model prog w) A (forIn ifs true fun c r => if r = true then do let ok ← isTrue c (compEnvC scope cl C env) (eval c (compEnvC scope cl C env)); pure (ForInStep.yield ok) else pure (ForInStep.yield r)) (fun ok s₃ => if ok = true then
          wpAny (model prog w) A (eval elt (compEnvC scope cl C env)) (fun y => CpEnd g L m s₂ I oI C oC D (lst ys) (J (i + 1) (ys ++ [y]))) nE s₃
          else CpEnd g L m s₂ I oI C oC D (lst ys) (J (i + 1) ys) s₃) nE { s₂ with heap := h, toks := tk })
    (hRR : ∀ D C h tk m' ys nx, Fr g L h m → News g L h ((D, lst ys) :: nx) → (∀ p ∈ nx, p.1 ≠ D) → h.Ns C m' → g.get? C = none → g.get? D = none → C ≠ L → D ≠ L → C ≠ D → (∀ p ∈ nx, p.1 ≠ C) → J vs.length ys nx → RR (.ref D) C (.ok .next) { s₂ with heap := h, toks := tk }) :
    wpAny (model prog w) A (newList []) (fun acc s₃ => wpAny (model prog w) A (newFunctionEnv scope env.globals cl [] env.qual none .none (some env)) (fun cenv s₄ =>
      codeAny (model prog w) A (.compStart (.ListComp elt [⟨target, iter, ifs, 0⟩] scope pos) 0 (.ref I) acc { cenv with scope := relabel scope env }) (RR acc cenv.locals) s₄) E s₃) E s₂ := by
  refine wpAny_newObj_type (wpAny_newFunctionEnv hcell (fun y hy => nomatch hy) (fun h₁ hns₁ hsb₁ => ?_) hkind)
  try dsimp only at hns₁ hsb₁ ⊢
  have hDC : s₂.heap.objs.size ≠ (s₂.heap.push { cls := .type "list", dict := none, data := .seq ([] : List Value).toArray }).objs.size := by rw [Heap.size_push]; exact Nat.ne_of_lt (Nat.lt_succ_self _)
  have below : ∀ b, b < s₂.heap.objs.size → b ≠ (s₂.heap.push { cls := .type "list", dict := none, data := .seq ([] : List Value).toArray }).objs.size ∧ b ≠ s₂.heap.objs.size := fun b hb => ⟨by rw [Heap.size_push]; exact Nat.ne_of_lt (Nat.lt_succ_of_lt hb), Nat.ne_of_lt hb⟩
  have old : ∀ b o, s₂.heap.get? b = some o → h₁.get? b = some o := fun b o e => hsb₁.extBut b o (below b (Heap.lt_size e)).1 (Heap.get?_push_of_some _ (Heap.get?_push_of_some _ e))
  have hacc : h₁.get? s₂.heap.objs.size = some (lst []) := hsb₁.extBut _ _ hDC (Heap.get?_push_of_some _ (Heap.get?_push_size _ rfl))
  have fresh₀ : ∀ a, s₂.heap.objs.size ≤ a → g.get? a = none := fun a ha => by
    cases e : g.get? a with
    | none => rfl
    | some o' => exact absurd (Heap.lt_size (F.keep a o' e)) (Nat.not_lt.mpr ha)
  have hD₀ : g.get? s₂.heap.objs.size = none := fresh₀ _ (Nat.le_refl _)
  have hC₀ : g.get? (s₂.heap.push { cls := .type "list", dict := none, data := .seq ([] : List Value).toArray }).objs.size = none := fresh₀ _ (by rw [Heap.size_push]; exact Nat.le_succ _)
  have hDL : s₂.heap.objs.size ≠ L := Ne.symm (below L F.ns.lt).2
  have hCL : (s₂.heap.push { cls := .type "list", dict := none, data := .seq ([] : List Value).toArray }).objs.size ≠ L := Ne.symm (below L F.ns.lt).1
  have hCI := (below I hIlt).1
  have hDI := (below I hIlt).2
  have hII : h₁.IsListIter I ax 0 := hI.at fun o e => old _ _ e
  have loop := cp_step (tk₁ := s₂.toks + ([] : List (Str × Value)).length) (RR := RR (.ref s₂.heap.objs.size) (s₂.heap.push { cls := .type "list", dict := none, data := .seq ([] : List Value).toArray }).objs.size) (elt := elt) (iter := iter) (ifs := ifs) (pos := pos) Bd J hh hc hd hlen hsrc hIL hI₀ hDC hD₀ hC₀ hDL hCL hCI hDI hII (F.keeps old) hns₁ (fmc ⟨hacc, hDL, hD₀⟩ fun p hp => ⟨old _ _ (N p hp).1, (N p hp).2⟩)
    (fun p hp => ⟨off p hp, below _ (Heap.lt_size (N p hp).1)⟩) h0 (fun i v ys nx m₂ s' Q a b c d e f => bind i v ys nx _ m₂ s' Q a b hCL c d e f) (fun i ys nx oI oC m₃ h tk a b c d e f k => turn i ys nx _ oI _ oC _ m₃ h tk a b c d e hCI hDI (Ne.symm hDC) f k)
    (fun h tk m' ys nx a b c d e => hRR _ _ h tk m' ys nx a b (fun p hp => (c p hp).2.2) d hC₀ hD₀ hCL hDL (Ne.symm hDC) (fun p hp => (c p hp).2.1) e)
  exact codeAny_compStart_list loop (wpAny_pyIter_listiter hII loop)
end
section
variable {prog : Program} {w : World} {A : Around} {E : Value → Shared → Prop} {s : Shared} {g : Heap} {L : Addr} {m : Str → Option Value} {env : Env} {elt target iter : PySem.Expr} {ifs : List PySem.Expr} {scope : Scope} {cl : List (Str × Addr)} {pos : Pos} {ax : Addr} {ol : Obj} {vs : List Value} {nn : Nat} {news : List (Addr × Obj)}
/-- a list comprehension over a list of the ground or of the ledger -/
theorem cp_eval {Q : Value → Shared → Prop} (Bd : Nat → (Str → Option Value) → Prop) (J : Nat → List Value → List (Addr × Obj) → Prop)
    (hh : A.handled = none) (hit : ∀ {Q : Value → Shared → Prop}, Q (.ref ax) s → wpAny (model prog w) A (eval iter env) Q nE s) (hc : ol.cls = .type "list") (hd : ol.data = .seq vs.toArray nn) (hlen : vs.length ≤ 10000)
    (hsrc : ∀ i ys nx h, J i ys nx → Fr g L h m → News g L h nx → h.get? ax = some ol) (F : Fr g L s.heap m) (N : News g L s.heap news) (h0 : J 0 [] news)
    (hclos : closureFor scope env = pure cl) (hcell : ∀ y ∈ scope.names, y.2 ≠ .cell) (hkind : scope.kind = .function) (hnames : ∀ y ∈ scope.names, y.2 = .local → scope.names.lookup y.1 = some .local)
    (bind : ∀ i v ys nx C m₂ (s' : Shared) (Q : Shared → Prop), vs[i]? = some v → J i ys nx → C ≠ L → Fr g L s'.heap m → News g L s'.heap nx → s'.heap.Ns C m₂ →
      (∀ h' tk m₃, Bd i m₃ → h'.Ns C m₃ → (∀ b o, b ≠ C → s'.heap.get? b = some o → h'.get? b = some o) → Q { s' with heap := h', toks := tk }) → wpAny (model prog w) A (assign target (compEnvC scope cl C env) v) (fun _ => Q) nE s')
    (turn : ∀ (s₂ : Shared), (∃ h, s₂ = { s with heap := h }) → ∀ i ys nx I oI C oC D m₃ h tk, i < vs.length → Bd i m₃ → J i ys nx → NsObj oC m₃ → (∀ p ∈ nx, p.1 ≠ I ∧ p.1 ≠ C ∧ p.1 ≠ D) → I ≠ C → I ≠ D → C ≠ D → Fr g L h m → News g L h ((I, oI) :: (C, oC) :: (D, lst ys) :: nx) →
      wpAny (model prog w) A (forIn ifs true fun c r => if r = true then do let ok ← isTrue c (compEnvC scope cl C env) (eval c (compEnvC scope cl C env)); pure (ForInStep.yield ok) else pure (ForInStep.yield r)) (fun ok s₃ => if ok = true then
          wpAny (model prog w) A (eval elt (compEnvC scope cl C env)) (fun y => CpEnd g L m s₂ I oI C oC D (lst ys) (J (i + 1) (ys ++ [y]))) nE s₃
          else CpEnd g L m s₂ I oI C oC D (lst ys) (J (i + 1) ys) s₃) nE { s₂ with heap := h, toks := tk })
    (done : ∀ D ys nx h tk, J vs.length ys nx → Fr g L h m → News g L h ((D, lst ys) :: nx) → (∀ p ∈ nx, p.1 ≠ D) → Q (.ref D) { s with heap := h, toks := tk })
    (hs : ∀ x, foldedSetIterable iter env x = pure x := by intro _; rfl) :
    wpAny (model prog w) A (eval (.ListComp elt [⟨target, iter, ifs, 0⟩] scope pos) env) Q nE s := by
  have hol := hsrc _ _ _ _ h0 F N
  have hls : s.heap.IsList ax vs.toArray := ⟨_, hol, hc, nn, hd⟩
  have hne : ax ≠ s.heap.objs.size := Nat.ne_of_lt (Heap.lt_size hol)
  rw [eval_ListComp]
  refine wpAny_comprehension_free (use := none) rfl hs hclos hkind hnames (hit ?_)
  refine wpAny_pyIter_list hls ?_
  refine cp_core (RR := fun acc C => compPost (model prog w) A nE none Q acc C) Bd J hh hc hd hlen hsrc (I := s.heap.objs.size) ⟨_, Heap.get?_push_size _ rfl, rfl, rfl⟩ hne ?_ hcell hkind (F.push _) (fun p hp => ⟨Heap.get?_push_of_some _ (N p hp).1, (N p hp).2⟩) (Nat.ne_of_lt F.ns.lt) (none_at_size F)
    (fun p hp => Nat.ne_of_lt (Heap.lt_size (N p hp).1)) h0 bind (turn _ ⟨_, rfl⟩) ?_
  · show _ < (s.heap.push _).objs.size
    rw [Heap.size_push]; exact Nat.lt_succ_self _
  · intro D C h tk m' ys nx F' N' off hn hC₀ hD₀ hCL hDL hCD offC hj
    refine ⟨m', hn, fun h'' hs'' => done D ys nx h'' tk hj (F'.change hs'' hCL hC₀) (fun p hp => ?_) off⟩
    refine ⟨hs''.extBut _ _ ?_ (N' p hp).1, (N' p hp).2⟩
    rcases List.mem_cons.mp hp with rfl | hp
    · exact Ne.symm hCD
    · exact offC p hp
/-- NAME = a list comprehension -/
theorem cp_assign {y : Str} {py spos : Pos} {Q : Flow → Shared → Prop} (Bd : Nat → (Str → Option Value) → Prop) (J : Nat → List Value → List (Addr × Obj) → Prop)
    (hh : A.handled = none) (hit : ∀ {Q : Value → Shared → Prop}, Q (.ref ax) s → wpAny (model prog w) A (eval iter env) Q nE s) (hc : ol.cls = .type "list") (hd : ol.data = .seq vs.toArray nn) (hlen : vs.length ≤ 10000)
    (hsrc : ∀ i ys nx h, J i ys nx → Fr g L h m → News g L h nx → h.get? ax = some ol) (F : Fr g L s.heap m) (N : News g L s.heap news) (h0 : J 0 [] news)
    (hclos : closureFor scope env = pure cl) (hcell : ∀ y ∈ scope.names, y.2 ≠ .cell) (hkind : scope.kind = .function) (hnames : ∀ y ∈ scope.names, y.2 = .local → scope.names.lookup y.1 = some .local)
    (hLe : env.locals = L) (hsw : swapsWith (.ListComp elt [⟨target, iter, ifs, 0⟩] scope pos) (some (.Name y py)) spos.line env = pure true) (hy : env.kindOf y = some .local) (hp : (env.scope.kind == .class || (env.scope.kind == .module && env.locals != env.globals)) = false)
    (bind : ∀ i v ys nx C m₂ (s' : Shared) (Q : Shared → Prop), vs[i]? = some v → J i ys nx → C ≠ L → Fr g L s'.heap m → News g L s'.heap nx → s'.heap.Ns C m₂ →
      (∀ h' tk m₃, Bd i m₃ → h'.Ns C m₃ → (∀ b o, b ≠ C → s'.heap.get? b = some o → h'.get? b = some o) → Q { s' with heap := h', toks := tk }) → wpAny (model prog w) A (assign target (compEnvC scope cl C env) v) (fun _ => Q) nE s')
    (turn : ∀ (s₂ : Shared), (∃ h, s₂ = { s with heap := h }) → ∀ i ys nx I oI C oC D m₃ h tk, i < vs.length → Bd i m₃ → J i ys nx → NsObj oC m₃ → (∀ p ∈ nx, p.1 ≠ I ∧ p.1 ≠ C ∧ p.1 ≠ D) → I ≠ C → I ≠ D → C ≠ D → Fr g L h m → News g L h ((I, oI) :: (C, oC) :: (D, lst ys) :: nx) →
      wpAny (model prog w) A (forIn ifs true fun c r => if r = true then do let ok ← isTrue c (compEnvC scope cl C env) (eval c (compEnvC scope cl C env)); pure (ForInStep.yield ok) else pure (ForInStep.yield r)) (fun ok s₃ => if ok = true then
          wpAny (model prog w) A (eval elt (compEnvC scope cl C env)) (fun y => CpEnd g L m s₂ I oI C oC D (lst ys) (J (i + 1) (ys ++ [y]))) nE s₃
          else CpEnd g L m s₂ I oI C oC D (lst ys) (J (i + 1) ys) s₃) nE { s₂ with heap := h, toks := tk })
    (done : ∀ D ys nx h tk, J vs.length ys nx → Fr g L h (fun z => if z = y then some (.ref D) else m z) → News g L h ((D, lst ys) :: nx) → (∀ p ∈ nx, p.1 ≠ D) → Q .next { s with heap := h, toks := tk })
    (hs : ∀ x, foldedSetIterable iter env x = pure x := by intro _; rfl) :
    wpAny (model prog w) A (exec (.Assign [.Name y py] (.ListComp elt [⟨target, iter, ifs, 0⟩] scope pos) spos) env) Q nE s := by
  subst hLe
  have hol := hsrc _ _ _ _ h0 F N
  have hls : s.heap.IsList ax vs.toArray := ⟨_, hol, hc, nn, hd⟩
  have hne : ax ≠ s.heap.objs.size := Nat.ne_of_lt (Heap.lt_size hol)
  rw [exec_Assign_Name_used _ _ _ _ hsw]
  refine wpAny_bind (wpAny_standAt (wpAny_bind ?_))
  show wpAny _ A (do let _ ← comprehension (.ListComp elt [⟨target, iter, ifs, 0⟩] scope pos) scope env _ (newList []) false (eval iter env) (some (assign (.Name y py) env))) _ _ s
  refine wpAny_bind (wpAny_mono (wpAny_comprehension_free (use := some (assign (.Name y py) env)) (Q := fun _ s' => Q .next s') rfl hs hclos hkind hnames (hit ?_)) (fun _ s' hq => wpAny_pure (wpAny_pure hq)) fun _ _ e => e)
  refine wpAny_pyIter_list hls ?_
  refine cp_core (RR := fun acc C => compPost (model prog w) A nE (some (assign (.Name y py) env)) (fun _ s' => Q .next s') acc C) Bd J hh hc hd hlen hsrc (I := s.heap.objs.size) ⟨_, Heap.get?_push_size _ rfl, rfl, rfl⟩ hne ?_ hcell hkind (F.push _) (fun p hp => ⟨Heap.get?_push_of_some _ (N p hp).1, (N p hp).2⟩) (Nat.ne_of_lt F.ns.lt) (none_at_size F)
    (fun p hp => Nat.ne_of_lt (Heap.lt_size (N p hp).1)) h0 bind (turn _ ⟨_, rfl⟩) ?_
  · show _ < (s.heap.push _).objs.size
    rw [Heap.size_push]; exact Nat.lt_succ_self _
  · intro D C h tk m' ys nx F' N' off hn hC₀ hD₀ hCL hDL hCD offC hj
    show wpAny _ A (assign (.Name y py) env (.ref D)) _ _ _
    refine wpAny_assign_Name (wpAny_storeName_local hy F'.ns (fun h₂ hn₂ hs₂ => ?_) hp)
    have hL₀ : g.get? env.locals = none := Heap.get?_none_of_le F'.above
    have F₂ : Fr g env.locals h₂ (fun z => if z = y then some (.ref D) else m z) := ⟨hn₂, fun b o e => hs₂.extBut b o (fun q => by rw [q, hL₀] at e; cases e) (F'.keep b o e), F'.above⟩
    refine ⟨m', hn.sameBut hs₂ hCL, fun h'' hs'' => done D ys nx h'' _ hj (F₂.change hs'' hCL hC₀) (fun p hp => ?_) off⟩
    have z : h₂.get? p.1 = some p.2 := hs₂.extBut _ _ (N' p hp).2.1 (N' p hp).1
    refine ⟨hs''.extBut _ _ ?_ z, (N' p hp).2⟩
    rcases List.mem_cons.mp hp with rfl | hp
    · exact Ne.symm hCD
    · exact offC p hp
/-- the two names of a pair, bound in a comprehension -/
theorem cp_bind2 {C t : Addr} {x₁ x₂ : Str} {p₁ p₂ tp : Pos} {kk : Nat} {v₁ v₂ : Value} {m₂ : Str → Option Value} {Q : Shared → Prop} (hh : A.handled = none) (hT : IsTup s.heap t #[v₁, v₂]) (hn : s.heap.Ns C m₂) (hkind : scope.kind = .function) (hx₁ : scope.names.lookup x₁ = some .local) (hx₂ : scope.names.lookup x₂ = some .local)
    (h : ∀ h' tk, h'.Ns C (fun z => if z = x₂ then some v₂ else if z = x₁ then some v₁ else m₂ z) → (∀ b o, b ≠ C → s.heap.get? b = some o → h'.get? b = some o) → Q { s with heap := h', toks := tk }) :
    wpAny (model prog w) A (assign (.Tuple [.Name x₁ p₁, .Name x₂ p₂] kk tp) (compEnvC scope cl C env) (.ref t)) (fun _ => Q) nE s := by
  refine assign_Tuple_tuple hh hT rfl rfl fun h₅ he => ?_
  have he' : ∀ b o, s.heap.get? b = some o → h₅.get? b = some o := fun b o e => he b o (Nat.ne_of_lt (Heap.lt_size e)) e
  refine assignInOrder_cons (wpAny_assign_Name (wpAny_storeName_local (lookup_relabel_local hx₁) (hn.at' fun o e => he' _ o e) (fun h₆ hn₆ hs₆ => ?_) (by simp [compEnvC, relabel, hkind])))
  refine assignInOrder_cons (wpAny_assign_Name (wpAny_storeName_local (lookup_relabel_local hx₂) hn₆ (fun h₃ hn₃ hs₃ => ?_) (by simp [compEnvC, relabel, hkind])))
  exact assignInOrder_nil (h h₃ _ hn₃ fun b o hb e => hs₃.extBut b o hb (hs₆.extBut b o hb (he' b o e)))
theorem cp_bind3 {C t : Addr} {x₁ x₂ x₃ : Str} {p₁ p₂ p₃ tp : Pos} {kk : Nat} {v₁ v₂ v₃ : Value} {m₂ : Str → Option Value} {Q : Shared → Prop} (hh : A.handled = none) (hT : IsTup s.heap t #[v₁, v₂, v₃]) (hn : s.heap.Ns C m₂) (hkind : scope.kind = .function) (hx₁ : scope.names.lookup x₁ = some .local) (hx₂ : scope.names.lookup x₂ = some .local) (hx₃ : scope.names.lookup x₃ = some .local)
    (h : ∀ h' tk, h'.Ns C (fun z => if z = x₃ then some v₃ else if z = x₂ then some v₂ else if z = x₁ then some v₁ else m₂ z) → (∀ b o, b ≠ C → s.heap.get? b = some o → h'.get? b = some o) → Q { s with heap := h', toks := tk }) :
    wpAny (model prog w) A (assign (.Tuple [.Name x₁ p₁, .Name x₂ p₂, .Name x₃ p₃] kk tp) (compEnvC scope cl C env) (.ref t)) (fun _ => Q) nE s := by
  refine assign_Tuple_tuple hh hT rfl rfl fun h₅ he => ?_
  have he' : ∀ b o, s.heap.get? b = some o → h₅.get? b = some o := fun b o e => he b o (Nat.ne_of_lt (Heap.lt_size e)) e
  refine assignInOrder_cons (wpAny_assign_Name (wpAny_storeName_local (lookup_relabel_local hx₁) (hn.at' fun o e => he' _ o e) (fun h₆ hn₆ hs₆ => ?_) (by simp [compEnvC, relabel, hkind])))
  refine assignInOrder_cons (wpAny_assign_Name (wpAny_storeName_local (lookup_relabel_local hx₂) hn₆ (fun h₇ hn₇ hs₇ => ?_) (by simp [compEnvC, relabel, hkind])))
  refine assignInOrder_cons (wpAny_assign_Name (wpAny_storeName_local (lookup_relabel_local hx₃) hn₇ (fun h₃ hn₃ hs₃ => ?_) (by simp [compEnvC, relabel, hkind])))
  exact assignInOrder_nil (h h₃ _ hn₃ fun b o hb e => hs₃.extBut b o hb (hs₇.extBut b o hb (hs₆.extBut b o hb (he' b o e))))
end
/-- the turns of the library's own comprehension rule by a word over the turn, the values and the ledger -/
theorem rest_inv {prog : Program} {w : World} {A : Around} {h₀ : Heap} {L : Addr} {m : Str → Option Value} {env : Env} {elt : PySem.Expr} {x : Str} {scope : Scope} {cl : List (Str × Addr)} {s : Shared} {S : List (Addr × Obj) → Prop} {P : Nat → Value → Prop} {Fin : List Value → List (Addr × Obj) → Prop} {news : List (Addr × Obj)} {n : Nat}
    (J : Nat → List Value → List (Addr × Obj) → Prop) (h0 : J 0 [] news)
    (turn : ∀ i v ys nx I oI C oC D m₂ h tk (E' : Value → Shared → Prop), i < n → P i v → J i ys nx → LCg.NsObj oC m₂ → m₂ x = some v → Fr h₀ L h m → News h₀ L h ((I, oI) :: (C, oC) :: (D, LCg.lst ys) :: nx) → LCg.Off3 I C D nx → ((@Ne Nat I C) ∧ (@Ne Nat I D) ∧ (@Ne Nat C D)) →
      wpAny (model prog w) A (eval elt (compEnvC scope cl C env)) (LCg.CompEnd h₀ L m { s with heap := h, toks := tk } I oI C oC D (LCg.lst ys) S (fun y nx' => J (i + 1) (ys ++ [y]) nx')) E' { s with heap := h, toks := tk })
    (fin : ∀ ys nx, J n ys nx → Fin ys nx) : LCg.CompRest prog w A h₀ L m env elt x scope cl s S P Fin n 0 [] news := by
  have key : ∀ (j i : Nat) (ys : List Value) (nx : List (Addr × Obj)), i + j = n → J i ys nx → LCg.CompRest prog w A h₀ L m env elt x scope cl s S P Fin j i ys nx := by
    intro j
    induction j with
    | zero =>
      intro i ys nx hi hj
      obtain rfl : i = n := by omega
      exact LCg.CompRest.zero (fin ys nx hj)
    | succ j ih =>
      intro i ys nx hi hj
      refine LCg.CompRest.succ ?_
      intro v I oI C oC D m₂ h tk E' hv hC hx F N off ne
      refine wpAny_mono (turn i v ys nx I oI C oC D m₂ h tk E' (by omega) hv hj hC hx F N off ne) (fun y s₂ hq => ?_) fun _ _ e => e
      obtain ⟨h', tk', nw, e, F', N', off', hS, hj'⟩ := hq
      exact ⟨h', tk', nw, e, F', N', off', hS, ih (i + 1) _ _ (by omega) hj'⟩
  exact key n 0 [] news (by omega) h0

end
/-! text Q2 -/
/-- the runs of the steps: the octets ahead, the length, the distance; and the octets behind the last -/
abbrev RunR := List UInt8 × Nat × Nat
def runStep (q : List RunR × List UInt8) (p : Nat × Nat) : List RunR × List UInt8 := if p.1 = 0 then (q.1, q.2 ++ [p.2.toUInt8]) else (q.1 ++ [(q.2, p.1, p.2)], [])
def runsF (ps : List (Nat × Nat)) : List RunR × List UInt8 := ps.foldl runStep ([], [])
theorem AllLt.ne {d : Addr} {l : List (Addr × Obj)} (h : AllLt d l) : ∀ p ∈ l, p.1 ≠ d := by
  induction l with
  | nil => intro p hp; cases hp
  | cons q r ih =>
    intro p hp
    rcases List.mem_cons.mp hp with rfl | hp
    · exact Nat.ne_of_lt h.1
    · exact ih h.2 p hp
theorem runsF_snoc {ps : List (Nat × Nat)} {i : Nat} {p : Nat × Nat} (h : ps[i]? = some p) : runsF (ps.take (i + 1)) = runStep (runsF (ps.take i)) p := by
  unfold runsF; rw [List.take_add_one, h]; exact List.foldl_append
theorem runsF_len (ps : List (Nat × Nat)) : (runsF ps).1.length + (runsF ps).2.length ≤ ps.length := by
  have key : ∀ (ps : List (Nat × Nat)) (q : List RunR × List UInt8), (ps.foldl runStep q).1.length + (ps.foldl runStep q).2.length ≤ q.1.length + q.2.length + ps.length := by
    intro ps
    induction ps with
    | nil => intro q; simp
    | cons p ps ih =>
      intro q
      have h := ih (runStep q p)
      rw [List.foldl_cons, List.length_cons]
      have h2 : (runStep q p).1.length + (runStep q p).2.length ≤ q.1.length + q.2.length + 1 := by
        unfold runStep
        split
        · simp only [List.length_append, List.length_singleton]; omega
        · simp only [List.length_append, List.length_singleton, List.length_nil]; omega
      omega
  have := key ps ([], [])
  simpa [runsF] using this
abbrev rowT (t u v : Tok) (r : RunR) : Obj := { cls := .type "tuple", data := .seq #[.bytes r.1.toArray t, .int (r.2.1 : Int) u, .int (r.2.2 : Int) v] }
def RowsIn (tl : List (Addr × Obj)) : List Addr → List RunR → Prop
  | a :: as, r :: rs => (∃ t u v, (a, rowT t u v r) ∈ tl) ∧ RowsIn tl as rs
  | [], [] => True
  | _, _ => False
theorem RowsIn.mono {tl tl' : List (Addr × Obj)} (h : ∀ p ∈ tl, p ∈ tl') : ∀ {as : List Addr} {rs : List RunR}, RowsIn tl as rs → RowsIn tl' as rs
  | [], [], _ => trivial
  | _ :: _, _ :: _, ⟨⟨t, u, v, x⟩, r⟩ => ⟨⟨t, u, v, h _ x⟩, RowsIn.mono h r⟩
theorem RowsIn.snoc {tl : List (Addr × Obj)} {a : Addr} {q : RunR} (x : ∃ t u v, (a, rowT t u v q) ∈ tl) : ∀ {as : List Addr} {rs : List RunR}, RowsIn tl as rs → RowsIn tl (as ++ [a]) (rs ++ [q])
  | [], [], _ => ⟨x, trivial⟩
  | _ :: _, _ :: _, ⟨y, r⟩ => ⟨y, RowsIn.snoc x r⟩
theorem RowsIn.length {tl : List (Addr × Obj)} : ∀ {as : List Addr} {rs : List RunR}, RowsIn tl as rs → as.length = rs.length
  | [], [], _ => rfl
  | _ :: _, _ :: _, ⟨_, r⟩ => by rw [List.length_cons, List.length_cons, RowsIn.length r]
theorem RowsIn.get {tl : List (Addr × Obj)} : ∀ {as : List Addr} {rs : List RunR} {i : Nat} {v : Value}, RowsIn tl as rs → (as.map Value.ref)[i]? = some v → ∃ a r t u k, v = .ref a ∧ rs[i]? = some r ∧ (a, rowT t u k r) ∈ tl
  | _ :: _, _ :: _, 0, _, ⟨⟨t, u, k, x⟩, _⟩, e => by cases e; exact ⟨_, _, t, u, k, rfl, rfl, x⟩
  | _ :: _, _ :: _, i + 1, _, ⟨_, r⟩, e => RowsIn.get (i := i) r e
section
variable {w : World} {A A₀ : Around} {s : Shared} {L : Addr} {h₀ base : Heap} {m mg mb : Str → Option Value} {loose : List Str} {mean : ExcName → Option Value} {env : Env} {outer : List Env} {Q : Value → Shared → Prop} {E : Value → Shared → Prop} {news : List (Addr × Obj)} {a : Addr} {as : List Addr} {ps : List (Nat × Nat)}
theorem runs_ok (C : Cx w A A₀ L h₀ base env outer mean mg mb loose 35 120) (F : Fr h₀ L s.heap m) (S : StepsAt s.heap a as ps) (hv : ∀ p ∈ ps, StepOk p) (hcnt : ps.length ≤ 1000)
    (ret : ∀ h' D R tr as' nn' tl tk, Fr h₀ L h' m → Kept s.heap h' [] → s.heap.get? D = none → s.heap.get? R = none → D ≠ R → h'.get? D = some { cls := .type "tuple", data := .seq #[.ref R, .bytes (runsF ps).2.toArray tr] } → h'.get? R = some (listOf (as'.map Value.ref).toArray nn') →
      Tups tl → (∀ p ∈ tl, h'.get? p.1 = some p.2) → (∀ p ∈ tl, s.heap.get? p.1 = none) → (∀ p ∈ tl, p.1 ≠ D) → RowsIn tl as' (runsF ps).1 → Q (.ref D) { s with heap := h', toks := tk }) :
    wpC (model PySem.Challenge.rw_tg0040_01.row.prog w) A (call (.ref 296) [.ref a]) Q s := by
  have N : News h₀ L s.heap [] := News.nil
  walk_at "start"
  refine c_call ?_
  k_dflt walk_at "enterC"
  refine c_fold ?_
  intro q0 hq0
  have S' : StepsAt g' a as ps := S.keeps fun b o e _ => hg' b o e List.not_mem_nil
  walk_at "nm"
  refine c_cons (c_Expr (c_CallName ?_))
  k_steps
  walk_at "cWith"
  (rename Fr _ _ _ _ => F')
  refine check_ok (C'.mono (by omega) (by omega)) F' (S'.keeps fun b o e _ => F'.keep b o e) hv fun h2 tk2 F2 K2 => ?_
  have N2 : News g' L' h2 [] := News.nil
  try dsimp only
  have hrl0 := runsF_len ps
  walk_at "nm"
  refine c_cons (c_AssignSwap (c_Tuple2 (c_any ?_)))
  k_steps
  refine c_CallName ?_
  k_steps
  walk_at "cWith"
  walk_at "cNewBA0"
  k_steps
  (rename Fr _ _ _ _ => F'); (rename News _ _ _ _ => N')
  refine ((fun G k => k _ _ F' (News.sub N' (by walk_at "subs")) (by k_ne)) : ∀ G : Prop, (∀ R H, Fr g' L' _ (fun y => if y = Str.ofString "rows" then some (.ref R) else if y = Str.ofString "held" then some (.ref H) else mp [(Str.ofString "steps", .ref a)] y) → News g' L' _ ((H, baO []) :: (R, listOf ([].map Value.ref).toArray 0) :: []) → H ≠ R → G) → G) _ ?_
  intro R H F' N' hne0
  obtain ⟨⟨ol, nn, hol, hc, hd⟩, hps⟩ := S'
  walk_at "nm"
  refine c_cons (c_For ?_)
  k_steps
  (rename Fr _ _ _ _ => F'); (rename News _ _ _ _ => N')
  obtain ⟨J1, J1i, J1e⟩ := exJ (fun (i : Nat) (m' : Str → Option Value) (nx : List (Addr × Obj)) (G : Prop) => ∀ u1 u2 H as2 nn2 tl, m' = (fun y => if y = Str.ofString "first" then u1 else if y = Str.ofString "second" then u2 else if y = Str.ofString "rows" then some (.ref R) else if y = Str.ofString "held" then some (.ref H) else mp [(Str.ofString "steps", .ref a)] y) → nx = (H, baO (runsF (ps.take i)).2) :: (R, listOf (as2.map Value.ref).toArray nn2) :: tl → H ≠ R → Tups tl → RowsIn tl as2 (runsF (ps.take i)).1 → G)
  refine c_forListX (l := a) (· = g') J1 hh rfl F' N' hc hd (fun i g₁ m nx h e _ F _ => by subst e; exact F.keep _ _ hol) (J1i _ _ _ fun G k => k none none H [] 0 [] ?mp0 rfl hne0 Tups.nil trivial) ?_ ?_
  case mp0 =>
    walk_at "mpU"
  clear F' N' hne0
  · rintro i v g₁ m₁ nx h₁ tk₁ I oI hi hv1 rfl hJ1 off F' N'
    refine c_foldA ?_
    intro q1 hq1
    refine J1e _ _ _ _ hJ1 ?_
    clear hJ1
    rintro u1 u2 H as2 nn2 tl rfl rfl hHR hTl hRs
    obtain ⟨b, p, t1, t2, rfl, hp, hT⟩ := hps.get hv1
    have hok := hv p (List.mem_of_getElem? hp)
    have hrs := runsF_snoc hp
    have hrl := runsF_len (ps.take i)
    rw [List.length_take] at hrl
    have hal := hRs.length
    rcases hok with ⟨hk1, hk2⟩ | ⟨hk1, hk2, hk3, hk4⟩
    · k_steps
      walk_at "nm"
      refine c_cons (c_If ?_)
      k_steps
      walk_at "nm"
      walk_at "cMeth"
      walk_at "cWith"
      walk_at "cApp"
      refine c_nil ?_
      try dsimp only
      refine c_nil ?_
      (rename Fr _ _ _ _ => F'); (rename News _ _ _ _ => N')
      have e2 : (runsF (ps.take (i + 1))).2 = (runsF (ps.take i)).2 ++ [p.2.toUInt8] := by rw [hrs, runStep, if_pos hk1]
      have e1 : (runsF (ps.take (i + 1))).1 = (runsF (ps.take i)).1 := by rw [hrs, runStep, if_pos hk1]
      rw [show (p.2 : Int).toNat.toUInt8 = p.2.toUInt8 from rfl, ← e2] at N'
      rw [← e1] at hRs
      refine' hq1 _ _ (LoopPostX.next1 ((H, baO (runsF (ps.take (i + 1))).2) :: (R, listOf (as2.map Value.ref).toArray nn2) :: tl) rfl F' N' (by walk_at "subs") (by walk_at "offs") (J1i _ _ _ fun G k => k (some (.int (p.1 : Int) t1)) (some (.int (p.2 : Int) t2)) H as2 nn2 tl ?mpL rfl hHR hTl hRs))
      case mpL =>
        walk_at "mpU"
    · k_steps
      walk_at "nm"
      refine c_cons (c_If ?_)
      k_steps
      walk_at "nm"
      walk_at "cStmt"
      walk_at "nm"
      refine c_cons (c_AssignName (c_CallName ?_))
      k_steps
      walk_at "cWith"
      walk_at "cNewBA0"
      k_steps
      refine c_nil ?_
      try dsimp only
      refine c_nil ?_
      (rename Fr _ _ _ _ => F'); (rename News _ _ _ _ => N')
      rw [List.push_toArray, ← map_ref_snoc] at N'
      have e2 : (runsF (ps.take (i + 1))).2 = [] := by rw [hrs, runStep, if_neg (by omega)]
      have e1 : (runsF (ps.take (i + 1))).1 = (runsF (ps.take i)).1 ++ [((runsF (ps.take i)).2, p.1, p.2)] := by rw [hrs, runStep, if_neg (by omega)]
      refine ((fun G k => k _ _ _ _ _ F' (News.sub N' (by walk_at "subs")) (by k_ne) (by k_ne) (by k_ne) (by k_ne)) : ∀ G : Prop, (∀ T H2 t3 t4 t5, Fr g₁ L' _ (fun y => if y = Str.ofString "held" then some (.ref H2) else if y = Str.ofString "second" then some (.int (p.2 : Int) t2) else if y = Str.ofString "first" then some (.int (p.1 : Int) t1) else (fun y => if y = Str.ofString "first" then u1 else if y = Str.ofString "second" then u2 else if y = Str.ofString "rows" then some (.ref R) else if y = Str.ofString "held" then some (.ref H) else mp [(Str.ofString "steps", .ref a)] y) y) → News g₁ L' _ ((I, oI) :: (H2, baO []) :: (R, listOf ((as2 ++ [T]).map Value.ref).toArray (nn2 + 1)) :: (T, rowT t3 t4 t5 ((runsF (ps.take i)).2, p.1, p.2)) :: tl) → H2 ≠ R → H2 ≠ I → T ≠ I → T ≠ R → G) → G) _ ?_
      intro T H2 t3 t4 t5 F' N' q1 q2 q3 q4
      have hR9 := (hRs.mono (tl' := (T, rowT t3 t4 t5 ((runsF (ps.take i)).2, p.1, p.2)) :: tl) (fun _ h => List.Mem.tail _ h)).snoc (a := T) (q := ((runsF (ps.take i)).2, p.1, p.2)) ⟨t3, t4, t5, List.Mem.head _⟩
      rw [← e1] at hR9
      rw [← e2] at N'
      refine' hq1 _ _ (LoopPostX.next1 ((H2, baO (runsF (ps.take (i + 1))).2) :: (R, listOf ((as2 ++ [T]).map Value.ref).toArray (nn2 + 1)) :: (T, rowT t3 t4 t5 ((runsF (ps.take i)).2, p.1, p.2)) :: tl) rfl F' N' (by walk_at "subs") (by walk_at "offs") (J1i _ _ _ fun G k => k (some (.int (p.1 : Int) t1)) (some (.int (p.2 : Int) t2)) H2 (as2 ++ [T]) (nn2 + 1) _ ?mpM rfl q1 (hTl.cons rfl) hR9))
      case mpM =>
        walk_at "mpU"
  · rintro g₁ m₁ nx h₁ tk₁ rfl hJ1 F' N'
    refine J1e _ _ _ _ hJ1 ?_
    clear hJ1
    rintro u1 u2 H as2 nn2 tl rfl rfl hHR hTl hRs
    have hpl := hps.length
    rw [List.take_of_length_le (by rw [List.length_map]; omega)] at N' hRs
    walk_at "nm"
    walk_at "cStmt"
    try dsimp only
    (rename Fr _ _ _ _ => F'); (rename News _ _ _ _ => N')
    have hR0 := fresh_of hg' N' (a := R) (o := listOf (as2.map Value.ref).toArray nn2) (by walk_at "mem") (fun _ h => nomatch h)
    have hfr : ∀ q ∈ tl, s.heap.get? q.1 = none := fun q hq => fresh_of hg' N' (a := q.1) (o := q.2) (by revert q hq; walk_at "tailmem") (fun _ h => nomatch h)
    have htl : ∀ q ∈ tl, Heap.get? _ q.1 = some q.2 := fun q hq => (N' q (by revert q hq; walk_at "tailmem")).1
    exact hq0 _ _ (BackW.fin (mods := []) F' N N' hg' (by walk_at "modsub") fun F K => ⟨_, rfl, ret _ _ R _ as2 nn2 tl _ F K (fresh_of hg' N' (List.Mem.head _) (fun _ h => nomatch h)) hR0 (by k_ne) (N' _ (List.Mem.head _)).1 ((N' (R, listOf (as2.map Value.ref).toArray nn2) (by walk_at "mem")).1) hTl htl hfr (by (with_reducible rename _ ∧ _ ∧ AllLt _ tl => hz); exact AllLt.ne hz.2.2) hRs⟩)
end

theorem ln_more_Q4 : True := by
  k_with "call ref" => (k_here; (with_reducible show wpAny _ _ (call (Value.ref 346) _) _ _ _); k_dflt ((rename Fr _ _ _ _ => F'); (rename News _ _ _ _ => N'); (replace F' : Fr g' L' _ _ := F'); (refine distance_spec (C'.mono (by omega) (by omega)) F' (News.two N' (by walk_at "mem") (by walk_at "mem")) (by omega) (by omega) (by first | omega | (rw [toldD_big (by omega)]; omega)) ?_); intro h' τ' d' r' tk' ed' er' F' K' e' td'; (replace N' := News.put1 N' K' (by k_updF) e'); (try dsimp only at N' ⊢)))
  trivial
/-! text P1 -/
theorem rep_get (P : List UInt8) (m : Nat) : ∀ k, k < m * P.length → ((List.replicate m P).flatten)[k]? = P[k % P.length]? := by
  induction m with
  | zero => intro k h; simp at h
  | succ m ih =>
    intro k h
    rw [List.replicate_succ, List.flatten_cons]
    rw [Nat.succ_mul] at h
    by_cases hk : k < P.length
    · rw [List.getElem?_append_left hk, Nat.mod_eq_of_lt hk]
    · rw [List.getElem?_append_right (by omega), ih _ (by omega), ← Nat.mod_eq_sub_mod (show k ≥ P.length by omega)]
theorem rep_len (P : List UInt8) (m : Nat) : ((List.replicate m P).flatten).length = m * P.length := by
  simp
theorem lz_piece {t : List UInt8} {d : Nat} (h1 : 1 ≤ d) (h2 : d ≤ t.length) (m : Nat) : ∀ n, n ≤ m * d → lz t d n = t ++ ((List.replicate m (t.drop (t.length - d))).flatten).take n := by
  have hP : (t.drop (t.length - d)).length = d := by rw [List.length_drop]; omega
  have hR := rep_len (t.drop (t.length - d)) m
  have hG := rep_get (t.drop (t.length - d)) m
  rw [hP] at hR hG
  generalize hRe : (List.replicate m (t.drop (t.length - d))).flatten = R at hR hG ⊢
  intro n
  induction n with
  | zero => intro _; simp [lz]
  | succ n ih =>
    intro hn
    have ih := ih (by omega)
    have hl := lz_length t d n
    have hget : R[n]? = some ((lz t d n).getD ((lz t d n).length - d) 0) := by
      have hlt : n < R.length := by omega
      have e0 : R[n]? = some R[n] := List.getElem?_eq_getElem hlt
      rw [e0]
      congr 1
      have e1 : (lz t d n)[t.length + n - d]? = some R[n] := by
        rw [← e0, hG n (by omega), ih]
        by_cases hnd : n < d
        · rw [List.getElem?_append_left (by omega), Nat.mod_eq_of_lt hnd, List.getElem?_drop]
          congr 1; omega
        · rw [List.getElem?_append_right (by omega), List.getElem?_take, if_pos (by omega), hG _ (by omega), List.getElem?_drop, List.getElem?_drop]
          have e2 : n % d = (n - d) % d := Nat.mod_eq_sub_mod (by omega)
          rw [e2]
          congr 3; omega
      rw [hl, List.getD_eq_getElem?_getD, e1]; rfl
    rw [lz, List.take_add_one, hget, Option.toList_some, ← List.append_assoc, ← ih]

/-! text P2 -/
theorem tellW_len (t : List UInt8) (p : Nat × Nat) : (tellW t p).length = t.length + max 1 p.1 := by
  unfold tellW
  split
  · rw [List.length_append, List.length_singleton]; omega
  · rw [lz_length]; omega
def Fits (t : List UInt8) (ps : List (Nat × Nat)) : Prop := ∀ i p, ps[i]? = some p → StepFit (ws t (ps.take i)) p
theorem Fits.nil (t : List UInt8) : Fits t [] := fun i p h => by simp at h
theorem Fits.snoc {t : List UInt8} {ps : List (Nat × Nat)} {p : Nat × Nat} (h : Fits t ps) (hp : StepFit (ws t ps) p) : Fits t (ps ++ [p]) := fun i q hq => by
  rcases Nat.lt_trichotomy i ps.length with hi | hi | hi
  · rw [List.getElem?_append_left hi] at hq
    rw [List.take_append_of_le_length (by omega)]
    exact h i q hq
  · subst hi
    rw [List.getElem?_append_right (Nat.le_refl _), Nat.sub_self] at hq
    obtain rfl : p = q := Option.some.inj hq
    rw [List.take_append_of_le_length (Nat.le_refl _), List.take_length]
    exact hp
  · rw [List.getElem?_eq_none (by rw [List.length_append, List.length_singleton]; omega)] at hq
    cases hq
theorem ws_snocA (t : List UInt8) (ps : List (Nat × Nat)) (p : Nat × Nat) : ws t (ps ++ [p]) = tellW (ws t ps) p := by rw [ws_append]; rfl
/-- pairs of ints in the ledger's tail -/
def PairsIn (tl : List (Addr × Obj)) : List Addr → List (Nat × Nat) → Prop
  | a :: as, p :: ps => (∃ t u, (a, tupO2 (p.1 : Int) (p.2 : Int) t u) ∈ tl) ∧ PairsIn tl as ps
  | [], [] => True
  | _, _ => False
theorem PairsIn.mono {tl tl' : List (Addr × Obj)} (h : ∀ p ∈ tl, p ∈ tl') : ∀ {as : List Addr} {ps : List (Nat × Nat)}, PairsIn tl as ps → PairsIn tl' as ps
  | [], [], _ => trivial
  | _ :: _, _ :: _, ⟨⟨t, u, x⟩, r⟩ => ⟨⟨t, u, h _ x⟩, PairsIn.mono h r⟩
theorem PairsIn.snoc {tl : List (Addr × Obj)} {a : Addr} {p : Nat × Nat} (x : ∃ t u, (a, tupO2 (p.1 : Int) (p.2 : Int) t u) ∈ tl) : ∀ {as : List Addr} {ps : List (Nat × Nat)}, PairsIn tl as ps → PairsIn tl (as ++ [a]) (ps ++ [p])
  | [], [], _ => ⟨x, trivial⟩
  | _ :: _, _ :: _, ⟨y, r⟩ => ⟨y, PairsIn.snoc x r⟩
theorem PairsIn.length {tl : List (Addr × Obj)} : ∀ {as : List Addr} {ps : List (Nat × Nat)}, PairsIn tl as ps → as.length = ps.length
  | [], [], _ => rfl
  | _ :: _, _ :: _, ⟨_, r⟩ => by rw [List.length_cons, List.length_cons, PairsIn.length r]
theorem PairsIn.at {tl : List (Addr × Obj)} {h : Heap} (k : ∀ p ∈ tl, h.get? p.1 = some p.2) : ∀ {as : List Addr} {ps : List (Nat × Nat)}, PairsIn tl as ps → PairsAt h as ps
  | [], [], _ => trivial
  | _ :: _, _ :: _, ⟨⟨t, u, x⟩, r⟩ => ⟨⟨t, u, _, k _ x, rfl, _, rfl⟩, PairsIn.at k r⟩

/-! text P3 -/
theorem snoc_indG {α : Type} {p : List α → Prop} (h0 : p []) (hs : ∀ t o, p t → p (t ++ [o])) (t : List α) : p t := by
  rw [← List.reverse_reverse t]
  induction t.reverse with
  | nil => exact h0
  | cons o r ih => rw [List.reverse_cons]; exact hs _ _ ih
/-! the offsets behind the runs, and the values that tell them -/
abbrev OffS := Int × Int × Int
def valO (q : OffS) (r : RunR) : Int := valueO q.1 q.2.1 q.2.2 (r.2.2 : Int) (r.1.length : Int)
def offStep (q : OffS) (r : RunR) : OffS := moveO q.1 q.2.1 q.2.2 (r.2.2 : Int) (toldP (valO q r) (r.1.length : Int))
def offsF (q : OffS) (rs : List RunR) : OffS := rs.foldl offStep q
def valsF : OffS → List RunR → List Int
  | _, [] => []
  | q, r :: rs => valO q r :: valsF (offStep q r) rs
theorem offsF_snoc {q : OffS} {rs : List RunR} {i : Nat} {r : RunR} (h : rs[i]? = some r) : offsF q (rs.take (i + 1)) = offStep (offsF q (rs.take i)) r := by
  unfold offsF; rw [List.take_add_one, h]; exact List.foldl_append
theorem valsF_get : ∀ {rs : List RunR} {q : OffS} {i : Nat} {r : RunR}, rs[i]? = some r → (valsF q rs)[i]? = some (valO (offsF q (rs.take i)) r)
  | _ :: _, _, 0, _, e => by cases e; rfl
  | _ :: rs, q, i + 1, _, e => valsF_get (rs := rs) (q := offStep q _) (i := i) e
theorem valsF_length : ∀ {rs : List RunR} {q : OffS}, (valsF q rs).length = rs.length
  | [], _ => rfl
  | _ :: rs, q => by rw [valsF, List.length_cons, valsF_length, List.length_cons]
theorem valsF_take : ∀ {rs : List RunR} {q : OffS} {i : Nat}, (valsF q rs).take i = valsF q (rs.take i)
  | [], _, _ => by simp [valsF]
  | _ :: _, _, 0 => rfl
  | _ :: rs, q, i + 1 => by simp only [valsF, List.take_succ_cons]; rw [valsF_take]
theorem valsF_snoc {q : OffS} {rs : List RunR} {i : Nat} {r : RunR} (h : rs[i]? = some r) : valsF q (rs.take (i + 1)) = valsF q (rs.take i) ++ [valO (offsF q (rs.take i)) r] := by
  rw [← valsF_take, List.take_add_one, valsF_take, valsF_get h]; rfl
theorem ints_at {vs : List Value} {ns : List Int} (h : IntsAre vs ns) : ∀ {i : Nat} {v : Value}, vs[i]? = some v → ∃ n t, ns[i]? = some n ∧ v = .int n t := by
  induction h with
  | nil => intro i v e; cases e
  | cons n t _ ih =>
    intro i v e
    cases i with
    | zero => cases e; exact ⟨_, _, rfl, rfl⟩
    | succ i => exact ih e
/-! what the runs tell is what the steps tell -/
def tellR (t : List UInt8) (r : RunR) : List UInt8 := lz (t ++ r.1) r.2.2 r.2.1
def runsT (t : List UInt8) (rs : List RunR) : List UInt8 := rs.foldl tellR t
theorem runsT_snoc {t : List UInt8} {rs : List RunR} {i : Nat} {r : RunR} (h : rs[i]? = some r) : runsT t (rs.take (i + 1)) = tellR (runsT t (rs.take i)) r := by
  unfold runsT; rw [List.take_add_one, h]; exact List.foldl_append
theorem runsT_app (t : List UInt8) (rs : List RunR) (r : RunR) : runsT t (rs ++ [r]) = tellR (runsT t rs) r := by
  unfold runsT; exact List.foldl_append
theorem runsF_app (ps : List (Nat × Nat)) (p : Nat × Nat) : runsF (ps ++ [p]) = runStep (runsF ps) p := by
  unfold runsF; exact List.foldl_append
theorem runs_ws (t : List UInt8) (ps : List (Nat × Nat)) : ws t ps = runsT t (runsF ps).1 ++ (runsF ps).2 := by
  induction ps using snoc_indG with
  | h0 => simp [ws, runsF, runsT]
  | hs ps p ih =>
    rw [ws_snocA, ih, runsF_app]
    unfold runStep
    split
    · rename_i h
      rw [tellW_lit h, List.append_assoc]
    · rename_i h
      rw [tellW_mat h, runsT_app, List.append_nil]
      rfl
def RowFit (t : List UInt8) (r : RunR) : Prop := 2 ≤ r.2.1 ∧ r.2.1 ≤ 9 ∧ 1 ≤ r.2.2 ∧ r.2.2 ≤ (t ++ r.1).length
theorem Fits.init {t : List UInt8} {ps : List (Nat × Nat)} {p : Nat × Nat} (h : Fits t (ps ++ [p])) : Fits t ps ∧ StepFit (ws t ps) p := by
  refine ⟨fun i q hq => ?_, ?_⟩
  · have hi : i < ps.length := (List.getElem?_eq_some_iff.mp hq).1
    have := h i q (by rw [List.getElem?_append_left hi]; exact hq)
    rwa [List.take_append_of_le_length (by omega)] at this
  · have := h ps.length p (by rw [List.getElem?_append_right (Nat.le_refl _), Nat.sub_self]; rfl)
    rwa [List.take_append_of_le_length (Nat.le_refl _), List.take_length] at this
theorem rows_fit {t : List UInt8} {P : Nat → Prop} (ps : List (Nat × Nat)) (hF : Fits t ps) (hP : ∀ p ∈ ps, 0 < p.1 → P p.2) : ∀ i r, (runsF ps).1[i]? = some r → RowFit (runsT t ((runsF ps).1.take i)) r ∧ P r.2.2 := by
  induction ps using snoc_indG with
  | h0 => intro i r h; simp [runsF] at h
  | hs ps p ih =>
    obtain ⟨hF1, hF2⟩ := hF.init
    have ih := ih hF1 fun q hq => hP q (List.mem_append_left _ hq)
    intro i r h
    rw [runsF_app] at h ⊢
    unfold runStep at h ⊢
    by_cases h0 : p.1 = 0
    · rw [if_pos h0] at h ⊢
      exact ih i r h
    · rw [if_neg h0] at h ⊢
      try dsimp only at h ⊢
      rcases Nat.lt_trichotomy i (runsF ps).1.length with hi | hi | hi
      · rw [List.getElem?_append_left hi] at h
        rw [List.take_append_of_le_length (by omega)]
        exact ih i r h
      · subst hi
        rw [List.getElem?_append_right (Nat.le_refl _), Nat.sub_self] at h
        obtain rfl := Option.some.inj h
        rw [List.take_append_of_le_length (Nat.le_refl _), List.take_length]
        rw [runs_ws] at hF2
        unfold StepFit at hF2
        refine ⟨?_, hP p (List.mem_append_right _ (List.mem_singleton_self p)) (by omega)⟩
        unfold RowFit
        try dsimp only
        omega
      · rw [List.getElem?_eq_none (by rw [List.length_append, List.length_singleton]; omega)] at h
        cases h
theorem lz_split (t : List UInt8) (d n : Nat) : t ++ (lz t d n).drop t.length = lz t d n := by
  induction n with
  | zero => simp [lz]
  | succ n ih => rw [lz_drop, ← List.append_assoc, ih]; rfl
theorem runsT_le (t : List UInt8) (rs : List RunR) (i : Nat) : (runsT t (rs.take i)).length ≤ (runsT t rs).length := by
  have key : ∀ (rs : List RunR) (t : List UInt8), t.length ≤ (runsT t rs).length := by
    intro rs
    induction rs with
    | nil => intro t; exact Nat.le_refl _
    | cons r rs ih =>
      intro t
      refine Nat.le_trans ?_ (ih (tellR t r))
      unfold tellR; rw [lz_length, List.length_append]; omega
  have := key (rs.drop i) (runsT t (rs.take i))
  rwa [show runsT (runsT t (rs.take i)) (rs.drop i) = runsT t (rs.take i ++ rs.drop i) from List.foldl_append.symm, List.take_append_drop] at this
theorem rows_len (ps : List (Nat × Nat)) : ∀ r ∈ (runsF ps).1, r.1.length ≤ ps.length := by
  induction ps using snoc_indG with
  | h0 => intro r h; simp [runsF] at h
  | hs ps p ih =>
    intro r h
    rw [runsF_app] at h
    rw [List.length_append, List.length_singleton]
    unfold runStep at h
    split at h
    · have := ih r h; omega
    · rcases List.mem_append.mp h with h | h
      · have := ih r h; omega
      · rw [List.mem_singleton.mp h]
        have := runsF_len ps
        try dsimp only
        omega
theorem offM {P : Addr → Prop} {nx nx' : List (Addr × Obj)} (hm : nx'.map (·.1) = nx.map (·.1)) (off : ∀ p ∈ nx, P p.1) : ∀ p ∈ nx', P p.1 := fun p hp => by
  have h : p.1 ∈ nx.map (·.1) := hm ▸ List.mem_map_of_mem hp
  obtain ⟨q, hq, e⟩ := List.mem_map.mp h
  rw [← e]; exact off q hq

/-! text Q6 -/
def endsF (t : List UInt8) (ps : List (Nat × Nat)) (i : Nat) : List Int := (List.range i).map fun j => ((ws t (ps.take (j + 1))).length : Int)
theorem endsF_succ (t : List UInt8) (ps : List (Nat × Nat)) (i : Nat) : endsF t ps (i + 1) = endsF t ps i ++ [((ws t (ps.take (i + 1))).length : Int)] := by
  unfold endsF; rw [List.range_succ, List.map_append]; rfl
theorem mulB {prog : Program} {w : World} {A : Around} {E : Value → Shared → Prop} {s : Shared} {b : List UInt8} {n : Int} {t u : Tok} {Q : Value → Shared → Prop} (hb : 1 ≤ b.length ∧ b.length ≤ 10000) (h2 : 2 ≤ n ∧ n ≤ 9) (h : ∀ t' k, Q (.bytes ((List.replicate n.toNat b).flatten).toArray t') { s with toks := k }) :
    wpAny (model prog w) A (binaryOp .Mult (.bytes b.toArray t) (.int n u)) Q E s :=
  bytes_mul_K (List.ne_nil_of_length_pos hb.1) h2.1 (by omega) (by
    have : b.length * n.toNat ≤ 10000 * 9 := Nat.mul_le_mul hb.2 (by omega)
    omega) rfl h
theorem ln_Q6_1 : True := by
  k_with "binaryOp Mult bytes int" => (k_here; (with_reducible show wpAny _ _ (binaryOp Operator.Mult (Value.bytes (List.toArray _) _) (Value.int _ _)) _ _ _); rw [hcut]; k_dflt ((refine mulB (by rw [hcl]; omega) (by omega) ?_); intro t' k'; (try dsimp only)))
  k_with "binaryOp Add bytes bytes" => (k_here; (with_reducible show wpAny _ _ (binaryOp Operator.Add (Value.bytes (List.toArray _) _) (Value.bytes (List.toArray _) _)) _ _ _); k_dflt ((refine addB (by omega) ?_); intro _ _; (try dsimp only)))
  k_with "subscriptTail" => (k_here; (with_reducible show wpAny _ _ (subscriptTail _ (Expr.Slice none _ none _) (Value.bytes (List.toArray _) _) (Value.ref _)) _ _ _); k_dflt ((rename Fr _ _ _ _ => F'); (rename News _ _ _ _ => N'); (refine sliceB (s := ⟨_, _, _, _, _⟩) F' N' (by omega) (by constructor) (by constructor) ?_); intro h' tt' tk' F' N'; rw [hmx, cutB_to, htk]; (try dsimp only)))
  trivial
section
variable {w : World} {A A₀ : Around} {s : Shared} {L : Addr} {h₀ base : Heap} {m mg mb : Str → Option Value} {loose : List Str} {mean : ExcName → Option Value} {env : Env} {outer : List Env} {Q : Value → Shared → Prop} {E : Value → Shared → Prop} {news : List (Addr × Obj)} {a : Addr} {as : List Addr} {ps : List (Nat × Nat)}
theorem lwhole_ok (C : Cx w A A₀ L h₀ base env outer mean mg mb loose 35 120) (F : Fr h₀ L s.heap m) (S : StepsAt s.heap a as ps) {t : List UInt8} {tt : Tok} (G : Good t ps)
    (ret : ∀ h' D R vs nn tw tk, Fr h₀ L h' m → Kept s.heap h' [] → s.heap.get? D = none → s.heap.get? R = none → D ≠ R → h'.get? D = some { cls := .type "tuple", data := .seq #[.bytes (ws t ps).toArray tw, .ref R] } → h'.get? R = some (listOf vs.toArray nn) → IntsAre vs (endsF t ps ps.length) → Q (.ref D) { s with heap := h', toks := tk }) :
    wpC (model PySem.Challenge.rw_tg0040_01.row.prog w) A (call (.ref 393) [.bytes t.toArray tt, .ref a]) Q s := by
  have N : News h₀ L s.heap [] := News.nil
  have hcnt := G.cnt
  walk_at "start"
  refine c_call ?_
  k_dflt walk_at "enterC"
  refine c_fold ?_
  intro q0 hq0
  have S' : StepsAt g' a as ps := S.keeps fun b o e _ => hg' b o e List.not_mem_nil
  walk_at "nm"
  walk_at "cStmt"
  (rename Fr _ _ _ _ => F'); (rename News _ _ _ _ => N')
  refine ((fun G k => k _ F' (News.sub N' (by walk_at "subs"))) : ∀ G : Prop, (∀ R, Fr g' L' _ (fun y => if y = Str.ofString "whole" then some (.bytes (ws t (ps.take 0)).toArray tt) else if y = Str.ofString "ends" then some (.ref R) else mp [(Str.ofString "steps", .ref a), (Str.ofString "history", .bytes t.toArray tt)] y) → News g' L' _ [(R, listOf #[] 0)] → G) → G) _ ?_
  intro R F' N'
  obtain ⟨⟨ol, nn, hol, hc, hd⟩, hps⟩ := S'
  walk_at "nm"
  refine c_cons (c_For ?_)
  k_steps
  (rename Fr _ _ _ _ => F'); (rename News _ _ _ _ => N')
  obtain ⟨J1, J1i, J1e⟩ := exJ (fun (i : Nat) (m' : Str → Option Value) (nx : List (Addr × Obj)) (G : Prop) => ∀ u1 u2 u3 tw vs nn, m' = (fun y => if y = Str.ofString "length" then u1 else if y = Str.ofString "other" then u2 else if y = Str.ofString "piece" then u3 else if y = Str.ofString "whole" then some (.bytes (ws t (ps.take i)).toArray tw) else if y = Str.ofString "ends" then some (.ref R) else mp [(Str.ofString "steps", .ref a), (Str.ofString "history", .bytes t.toArray tt)] y) → nx = [(R, listOf vs.toArray nn)] → IntsAre vs (endsF t ps i) → G)
  refine c_forListX (l := a) (· = g') J1 hh rfl F' N' hc hd (fun i g₁ m nx h e _ F _ => by subst e; exact F.keep _ _ hol) (J1i _ _ _ fun G k => k none none none tt [] 0 ?mp0 rfl .nil) ?_ ?_
  case mp0 =>
    walk_at "mpU"
  clear F' N'
  · rintro i v g₁ m₁ nx h₁ tk₁ I oI hi hv1 rfl hJ1 off F' N'
    refine c_foldA ?_
    intro q1 hq1
    refine J1e _ _ _ _ hJ1 ?_
    clear hJ1
    rintro u1 u2 u3 tw vs nn2 rfl rfl hIs
    obtain ⟨b, p, t1, t2, rfl, hp, hT⟩ := hps.get hv1
    have hfit := G.fit _ _ hp
    have htl := G.take i
    have htl2 := G.take (i + 1)
    have hws := ws_snoc (t := t) hp
    have hvl := hIs.length
    have hel : (endsF t ps i).length = i := by unfold endsF; rw [List.length_map, List.length_range]
    have hpl := hps.length
    rcases hfit with ⟨hk1, hk2⟩ | ⟨hk1, hk2, hk3, hk4⟩
    · k_steps
      walk_at "nm"
      walk_at "cStmt"
      have hmx : (if (p.1 : Int) > 1 then (p.1 : Int) else 1) = ((1 : Nat) : Int) := by rw [if_neg (by omega)]; rfl
      generalize hPC : [p.2.toUInt8] = PC
      have hpl2 : PC.length = 1 := by rw [← hPC]; rfl
      have htk : PC.take 1 = PC := by rw [← hPC]; rfl
      (rename Fr _ _ _ _ => F'); (rename News _ _ _ _ => N')
      obtain ⟨tp, F'⟩ : ∃ tp, Fr g₁ L' _ (fun y => if y = Str.ofString "piece" then some (.bytes PC.toArray tp) else if y = Str.ofString "other" then some (.int (p.2 : Int) t2) else if y = Str.ofString "length" then some (.int (p.1 : Int) t1) else (fun y => if y = Str.ofString "length" then u1 else if y = Str.ofString "other" then u2 else if y = Str.ofString "piece" then u3 else if y = Str.ofString "whole" then some (.bytes (ws t (ps.take i)).toArray tw) else if y = Str.ofString "ends" then some (.ref R) else mp [(Str.ofString "steps", .ref a), (Str.ofString "history", .bytes t.toArray tt)] y) y) := by rw [← hPC]; exact ⟨_, F'⟩
      have hwx : ws t (ps.take i) ++ PC = ws t (ps.take (i + 1)) := by rw [hws, tellW_lit hk1, hPC]
      walk_at "cStmt"
      walk_at "cStmt"
      try dsimp only
      refine c_nil ?_
      (rename Fr _ _ _ _ => F'); (rename News _ _ _ _ => N')
      rw [hwx] at F' N'
      refine ((fun G k => k _ _ _ F' (by rw [List.push_toArray] at N'; exact News.sub N' (by walk_at "subs"))) : ∀ G : Prop, (∀ ta tb pv, Fr g₁ L' _ (fun y => if y = Str.ofString "whole" then some (.bytes (ws t (ps.take (i + 1))).toArray ta) else if y = Str.ofString "piece" then some pv else if y = Str.ofString "other" then some (.int (p.2 : Int) t2) else if y = Str.ofString "length" then some (.int (p.1 : Int) t1) else (fun y => if y = Str.ofString "length" then u1 else if y = Str.ofString "other" then u2 else if y = Str.ofString "piece" then u3 else if y = Str.ofString "whole" then some (.bytes (ws t (ps.take i)).toArray tw) else if y = Str.ofString "ends" then some (.ref R) else mp [(Str.ofString "steps", .ref a), (Str.ofString "history", .bytes t.toArray tt)] y) y) → News g₁ L' _ [(I, oI), (R, listOf (vs ++ [Value.int ((ws t (ps.take (i + 1))).length : Int) tb]).toArray (nn2 + 1))] → G) → G) _ ?_
      intro ta tb pv F' N'
      refine' hq1 _ _ (LoopPostX.next1 [(R, listOf (vs ++ [Value.int ((ws t (ps.take (i + 1))).length : Int) tb]).toArray (nn2 + 1))] rfl F' N' (by walk_at "subs") (by walk_at "offs") (J1i _ _ _ fun G k => k (some (.int (p.1 : Int) t1)) (some (.int (p.2 : Int) t2)) (some pv) ta (vs ++ [Value.int ((ws t (ps.take (i + 1))).length : Int) tb]) (nn2 + 1) ?mpL rfl (by rw [endsF_succ]; exact IntsAre.append hIs (.cons _ _ .nil))))
      case mpL =>
        walk_at "mpU"
    · have hcut : cutB (ws t (ps.take i)) (some (((ws t (ps.take i)).length : Int) - (p.2 : Int))) none = (ws t (ps.take i)).drop ((ws t (ps.take i)).length - p.2) := by
        rw [show ((ws t (ps.take i)).length : Int) - (p.2 : Int) = (((ws t (ps.take i)).length - p.2 : Nat) : Int) from by omega, cutB_from]
      have hcl : ((ws t (ps.take i)).drop ((ws t (ps.take i)).length - p.2)).length = p.2 := by rw [List.length_drop]; omega
      k_steps
      walk_at "cStmt"
      (rename Fr _ _ _ _ => F'); (rename News _ _ _ _ => N')
      have hpc := lz_piece hk3 hk4 p.1 p.1 (Nat.le_mul_of_pos_right _ hk3)
      have hpl2 := rep_len ((ws t (ps.take i)).drop ((ws t (ps.take i)).length - p.2)) p.1
      rw [hcl] at hpl2
      have hpl3 : p.1 * p.2 ≤ 9 * 10000 := Nat.mul_le_mul hk2 (by omega)
      rw [← tellW_mat (by omega), ← hws] at hpc
      rw [Int.toNat_natCast] at F'
      generalize hPC : (List.replicate p.1 ((ws t (ps.take i)).drop ((ws t (ps.take i)).length - p.2))).flatten = PC at F' hpc hpl2
      have hmx : (if (p.1 : Int) > 1 then (p.1 : Int) else 1) = (p.1 : Int) := by rw [if_pos (by omega)]
      obtain ⟨PT, htk, hptl⟩ : ∃ PT, PC.take p.1 = PT ∧ PT.length ≤ 100000 := ⟨_, rfl, by rw [List.length_take]; omega⟩
      rw [htk] at hpc
      have hwx : ws t (ps.take i) ++ PT = ws t (ps.take (i + 1)) := hpc.symm
      walk_at "cStmt"
      walk_at "cStmt"
      try dsimp only
      refine c_nil ?_
      (rename Fr _ _ _ _ => F'); (rename News _ _ _ _ => N')
      rw [hwx] at F' N'
      refine ((fun G k => k _ _ _ F' (by rw [List.push_toArray] at N'; exact News.sub N' (by walk_at "subs"))) : ∀ G : Prop, (∀ ta tb pv, Fr g₁ L' _ (fun y => if y = Str.ofString "whole" then some (.bytes (ws t (ps.take (i + 1))).toArray ta) else if y = Str.ofString "piece" then some pv else if y = Str.ofString "other" then some (.int (p.2 : Int) t2) else if y = Str.ofString "length" then some (.int (p.1 : Int) t1) else (fun y => if y = Str.ofString "length" then u1 else if y = Str.ofString "other" then u2 else if y = Str.ofString "piece" then u3 else if y = Str.ofString "whole" then some (.bytes (ws t (ps.take i)).toArray tw) else if y = Str.ofString "ends" then some (.ref R) else mp [(Str.ofString "steps", .ref a), (Str.ofString "history", .bytes t.toArray tt)] y) y) → News g₁ L' _ [(I, oI), (R, listOf (vs ++ [Value.int ((ws t (ps.take (i + 1))).length : Int) tb]).toArray (nn2 + 1))] → G) → G) _ ?_
      intro ta tb pv F' N'
      refine' hq1 _ _ (LoopPostX.next1 [(R, listOf (vs ++ [Value.int ((ws t (ps.take (i + 1))).length : Int) tb]).toArray (nn2 + 1))] rfl F' N' (by walk_at "subs") (by walk_at "offs") (J1i _ _ _ fun G k => k (some (.int (p.1 : Int) t1)) (some (.int (p.2 : Int) t2)) (some pv) ta (vs ++ [Value.int ((ws t (ps.take (i + 1))).length : Int) tb]) (nn2 + 1) ?mpM rfl (by rw [endsF_succ]; exact IntsAre.append hIs (.cons _ _ .nil))))
      case mpM =>
        walk_at "mpU"
  · rintro g₁ m₁ nx h₁ tk₁ rfl hJ1 F' N'
    refine J1e _ _ _ _ hJ1 ?_
    clear hJ1
    rintro u1 u2 u3 tw vs nn2 rfl rfl hIs
    have hpl := hps.length
    rw [List.take_of_length_le (by rw [List.length_map]; omega)] at F'
    rw [List.length_map, hpl] at hIs
    walk_at "nm"
    walk_at "cStmt"
    try dsimp only
    (rename Fr _ _ _ _ => F'); (rename News _ _ _ _ => N')
    have hR0 := fresh_of hg' N' (a := R) (o := listOf vs.toArray nn2) (by walk_at "mem") (fun _ h => nomatch h)
    exact hq0 _ _ (BackW.fin (mods := []) F' N N' hg' (by walk_at "modsub") fun F K => ⟨_, rfl, ret _ _ R vs nn2 tw _ F K (fresh_of hg' N' (List.Mem.head _) (fun _ h => nomatch h)) hR0 (by k_ne) (N' _ (List.Mem.head _)).1 ((N' (R, listOf vs.toArray nn2) (by walk_at "mem")).1) hIs⟩)
end

/-! text Q5 -/
section
variable {prog : Program} {w : World} {A : Around} {E : Value → Shared → Prop} {s : Shared} {h₀ : Heap} {L u : Addr} {news : List (Addr × Obj)} {Q : Value → Shared → Prop} {n : Nat} {xs : Array Value} {v : Value} {tu : Tok} {value slice : PySem.Expr}
theorem item_last (N : News h₀ L s.heap news) (hm : (u, listOf (xs.push v) n) ∈ news) (hl : xs.size ≤ 1000) (q : Q v s)
    (hs : subscripted slice false (.ref u) (.int (-1) tu) = operate [.ref u, .int (-1) tu] (getItem (.ref u) (.int (-1) tu)) := by with_unfolding_all rfl) (ht : ∀ r, letTemporaryGo value (.ref u) r = pure () := by intro _; with_unfolding_all rfl) :
    wpAny (model prog w) A (subscriptTail value slice (.ref u) (.int (-1) tu)) Q E s := by
  have hL : s.heap.IsList u (xs.push v) := ⟨_, (N _ hm).1, rfl, _, rfl⟩
  exact subscriptTail_builtin hL.typeIs slot_list_getitem.lookup (wpAny_getItem_list_neg hL (by decide) (by rw [Array.size_push]; omega) (by decide) (x := v) (by rw [Array.size_push, show ((-1 : Int) + ((xs.size + 1 : Nat) : Int)).toNat = xs.size from by omega, Array.getElem?_push_size]) q) hs ht
end
section
variable {w : World} {A A₀ : Around} {s : Shared} {L : Addr} {h₀ base : Heap} {m mg mb : Str → Option Value} {loose : List Str} {mean : ExcName → Option Value} {env : Env} {outer : List Env} {Q : Value → Shared → Prop} {E : Value → Shared → Prop} {a : Addr} {n : Nat} {τ : J4} {g o t c : Int} {b : Bool}
theorem ln_Q5_1 : True := by
  k_with "call ref" => (k_here; (with_reducible show wpAny _ _ (call (Value.ref 381) _) _ _ _); k_dflt ((rename Fr _ _ _ _ => F'); (rename News _ _ _ _ => N'); (try dsimp only at N'); (have F9 := F'); (refine match_ok (C'.mono (by omega) (by omega)) F' (News.two N' (by walk_at "mem") (by walk_at "mem")) (by assumption) (by k_ne) ⟨by omega, by omega⟩ (by assumption) (by omega) (by assumption) (by assumption) (by assumption) (by omega) ?_); intro h' n' τ' g' c' D' l' d' tl' td' tk' hl' hd' hgr' hc' F' K' e1' fr' e2'; (have l1 := new_ne N' fr'); (replace N' := News.fresh1 F9 fr' e2' (News.put1 N' K' (by k_updF) e1')); clear F9; (try dsimp only at N' ⊢)))
  k_with "subscriptTail" => (k_here; (with_reducible show wpAny _ _ (subscriptTail _ _ (Value.ref _) (Value.int (-1) _)) _ _ _); k_dflt ((rename News _ _ _ _ => N'); (refine item_last N' (by walk_at "mem") (by (simp only [List.size_toArray, List.length_map]; omega)) ?_); (try dsimp only)))
  trivial
theorem steps_ok (C : Cx w A A₀ L h₀ base env outer mean mg mb loose 45 200) (F : Fr h₀ L s.heap m) (N : News h₀ L s.heap [(a, jarO n τ g o t c b)]) (hg : 0 ≤ g ∧ g < 10 ^ 60) (ho : 0 ≤ o ∧ o < 1021) (ht : 0 ≤ t ∧ t < 1021) (hc : c = 0)
    (ret : ∀ h' n' τ' g' c' D R as nn hist th ps tl tk, (0 ≤ g' ∧ g' < 10 ^ 60) → (0 ≤ c' ∧ c' ≤ 100) → Fr h₀ L h' m → Kept s.heap h' [a] → h'.get? a = some (jarO n' τ' g' o t c' b) → s.heap.get? D = none → s.heap.get? R = none → D ≠ R → h'.get? D = some { cls := .type "tuple", data := .seq #[.bytes hist.toArray th, .ref R] } → h'.get? R = some (listOf (as.map Value.ref).toArray nn) →
      Tups tl → (∀ p ∈ tl, h'.get? p.1 = some p.2) → (∀ p ∈ tl, s.heap.get? p.1 = none) → (∀ p ∈ tl, p.1 ≠ D) → PairsIn tl as ps → Fits hist ps → (8 ≤ hist.length ∧ hist.length ≤ 10) → (ws hist ps).length ≤ 64 → ps.length ≤ 6 → (∃ p ∈ ps, 0 < p.1) → Q (.ref D) { s with heap := h', toks := tk }) :
    wpC (model PySem.Challenge.rw_tg0040_01.row.prog w) A (call (.ref 386) [.ref a]) Q s := by
  walk_at "start"
  refine c_call ?_
  k_dflt walk_at "enterCC"
  refine c_fold ?_
  intro q0 hq0
  (try dsimp only [jarO] at N')
  k_lt l1'
  rename Obj => oc
  rename oc.data = _ => hoc
  replace F' : Fr g' L' _ (fun y => if y = Str.ofString "jar" then some (Value.ref a) else none) := F'
  replace hoc : oc.data = .cell none := hoc
  obtain ⟨gr, hgr⟩ : ∃ gr, gr = g' := ⟨g', rfl⟩
  subst hgr
  walk_at "nm"
  walk_at "cStmt"
  walk_at "nm"
  walk_at "cStmt"
  (rename Fr _ _ _ _ => F'); (rename News _ _ _ _ => N')
  have hgc : 0 ≤ c' ∧ c' ≤ 2 := by omega
  refine ((fun G k => k _ _ _ _ F' (News.sub N' (by walk_at "subs")) (by (rw [List.length_map, List.length_map, rangeKs_length]; omega)) (by k_ne) (by k_ne) (by k_ne)) : ∀ G : Prop, (∀ (hist : List UInt8) (th : Tok) (U R : Addr), Fr gr L' _ (fun y => if y = Str.ofString "history" then some (.bytes hist.toArray th) else if y = Str.ofString "used" then some (.ref U) else if y = Str.ofString "steps" then some (.ref R) else (fun y => if y = Str.ofString "jar" then some (Value.ref a) else none) y) → News gr L' _ [(R, listOf #[] 0), (U, listOf #[] 0), (a, jarO n' τ' g' o t c' b)] → (8 ≤ hist.length ∧ hist.length ≤ 10) → R ≠ U → R ≠ a → U ≠ a → G) → G) _ ?_
  intro hist th U R F' N' hhl hRU hRa hUa
  obtain ⟨P, Pi, Pe⟩ := exP (fun (f : Flow) (s' : Shared) (G : Prop) => ∀ (h' : Heap) (tk mn : Nat) (tm : Tok) (n' : Nat) (τ' : J4) (g' c' : Int), f = .next → s' = { s with heap := h', toks := tk } → (2 ≤ mn ∧ mn ≤ 6) → (0 ≤ g' ∧ g' < 10 ^ 60) → (0 ≤ c' ∧ c' ≤ 3) → Fr gr L' h' (fun y => if y = Str.ofString "many" then some (.int (mn : Int) tm) else if y = Str.ofString "history" then some (.bytes hist.toArray th) else if y = Str.ofString "used" then some (.ref U) else if y = Str.ofString "steps" then some (.ref R) else (fun y => if y = Str.ofString "jar" then some (Value.ref a) else none) y) → News gr L' h' [(R, listOf #[] 0), (U, listOf #[] 0), (a, jarO n' τ' g' o t c' b)] → G)
  walk_at "nm"
  refine c_cons (c_mono (Q := P) (c_any ?_) ?_)
  · k_steps
    all_goals
      (rename Fr _ _ _ _ => F'); (rename News _ _ _ _ => N')
      exact Pi _ _ fun G k => k _ _ ((2 + v').toNat) _ n' τ' g' c' rfl rfl (by omega) hgr' (by omega) (by (rw [show (((2 + v').toNat : Nat) : Int) = 2 + v' from by omega]; exact F')) (News.sub N' (by walk_at "subs"))
  clear F' N' hgr' hc' hgc
  intro f s' hPf
  refine Pe _ _ _ hPf ?_
  rintro h' tk mn tm n' τ' g' c' rfl rfl hmn hgr' hc' F' N'
  clear Pi Pe hPf
  try dsimp only
  walk_at "nm"
  walk_at "cStmt"
  (rename Fr _ _ _ _ => F'); (rename News _ _ _ _ => N')
  have hgc : 0 ≤ c' ∧ c' ≤ 4 := by omega
  refine ((fun G k => k v' tv' _ [] rfl F' (News.sub N' (by walk_at "subs")) hv') : ∀ G : Prop, (∀ (sp : Int) (tsp tsz : Tok) (ps : List (Nat × Nat)), ps = [] → Fr gr L' _ (fun y => if y = Str.ofString "size" then some (.int ((ws hist ps).length : Int) tsz) else if y = Str.ofString "spot" then some (.int sp tsp) else if y = Str.ofString "many" then some (.int (mn : Int) tm) else if y = Str.ofString "history" then some (.bytes hist.toArray th) else if y = Str.ofString "used" then some (.ref U) else if y = Str.ofString "steps" then some (.ref R) else (fun y => if y = Str.ofString "jar" then some (Value.ref a) else none) y) → News gr L' _ [(R, listOf #[] 0), (U, listOf #[] 0), (a, jarO n' τ' g' o t c' b)] → (0 ≤ sp ∧ sp < (mn : Int)) → G) → G) _ ?_
  intro sp tsp tsz ps hps0 F' N' hsp
  subst hps0
  walk_at "nm"
  refine c_cons (c_For ?_)
  k_steps
  (rename Fr _ _ _ _ => F'); (rename News _ _ _ _ => N'); (rename IsRange _ _ _ _ _ _ _ _ => hR)
  obtain ⟨J1, J1i, J1e⟩ := exJ (fun (i : Nat) (m' : Str → Option Value) (nx : List (Addr × Obj)) (G : Prop) => ∀ u tsz as ps nn vs us nu tl n' τ' g' c', m' = (fun y => if y = Str.ofString "turn" then u else if y = Str.ofString "size" then some (.int ((ws hist ps).length : Int) tsz) else if y = Str.ofString "spot" then some (.int sp tsp) else if y = Str.ofString "many" then some (.int (mn : Int) tm) else if y = Str.ofString "history" then some (.bytes hist.toArray th) else if y = Str.ofString "used" then some (.ref U) else if y = Str.ofString "steps" then some (.ref R) else (fun y => if y = Str.ofString "jar" then some (Value.ref a) else none) y) → nx = (R, listOf (as.map Value.ref).toArray nn) :: (U, listOf vs.toArray nu) :: (a, jarO n' τ' g' o t c' b) :: tl → (0 ≤ g' ∧ g' < 10 ^ 60) → (0 ≤ c' ∧ c' ≤ 4 + 4 * (i : Int)) → Tups tl → PairsIn tl as ps → ps.length = i → Fits hist ps → (ws hist ps).length ≤ 10 + 9 * i → IntsAre vs us → us.length ≤ i → (∀ x ∈ us, 1 ≤ x ∧ x ≤ ((ws hist ps).length : Int)) → (sp < (i : Int) → ∃ p ∈ ps, 0 < p.1) → G)
  refine c_forRange (n := mn) J1 hh hR rfl (by omega) F' N' (J1i _ _ _ fun G k => k none tsz [] [] 0 [] [] 0 [] n' τ' g' c' ?mp0 rfl hgr' (by omega) Tups.nil trivial rfl (Fits.nil _) (by (show hist.length ≤ _; omega)) .nil (Nat.le_refl _) (fun _ h => nomatch h) (fun h => by omega)) ?_ ?_
  case mp0 =>
    walk_at "mpU"
  clear F' N' hgr' hc' hgc hv'
  · rintro i ti m₁ nx h₁ tk₁ I oI hi hJ1 off F' N'
    refine c_foldA ?_
    intro q1 hq1
    refine J1e _ _ _ _ hJ1 ?_
    clear hJ1
    rintro u tsz as ps nn vs us nu tl n' τ' g' c' rfl rfl hgr' hc' hTl hPs hpl hFi hwl hIs hul hus hspot
    have hal := hPs.length
    have hvl := hIs.length
    have hwl2 := ws_length ps hist
    have hspot' := hspot
    have hau : a ≠ U := hUa.symm
    k_steps
    (rename Fr _ _ _ _ => F'); (rename News _ _ _ _ => N')
    obtain ⟨P, Pi, Pe⟩ := exP (fun (f : Flow) (s' : Shared) (G : Prop) => ∀ (h' : Heap) (tk : Nat) (T : Addr) (p : Nat × Nat) (tl1 td1 : Tok) (vs : List Value) (us : List Int) (nu n' : Nat) (τ' : J4) (g' c' : Int), f = .next → s' = { s with heap := h', toks := tk } → StepFit (ws hist ps) p → (p.1 = 0 → (i : Int) ≠ sp) → (0 ≤ g' ∧ g' < 10 ^ 60) → (0 ≤ c' ∧ c' ≤ 4 + 4 * ((i + 1 : Nat) : Int)) → IntsAre vs us → us.length ≤ i + 1 → (∀ x ∈ us, 1 ≤ x ∧ x ≤ ((ws hist ps).length : Int)) → Fr gr L' h' (fun y => if y = Str.ofString "turn" then some (.int (i : Int) ti) else if y = Str.ofString "size" then some (.int ((ws hist ps).length : Int) tsz) else if y = Str.ofString "spot" then some (.int sp tsp) else if y = Str.ofString "many" then some (.int (mn : Int) tm) else if y = Str.ofString "history" then some (.bytes hist.toArray th) else if y = Str.ofString "used" then some (.ref U) else if y = Str.ofString "steps" then some (.ref R) else (fun y => if y = Str.ofString "jar" then some (Value.ref a) else none) y) → News gr L' h' ((T, tupO2 (p.1 : Int) (p.2 : Int) tl1 td1) :: (I, oI) :: (R, listOf ((as.map Value.ref).toArray.push (.ref T)) (nn + 1)) :: (U, listOf vs.toArray nu) :: (a, jarO n' τ' g' o t c' b) :: tl) → T ≠ I → T ≠ R → T ≠ U → T ≠ a → G)
    walk_at "nm"
    refine c_cons (c_mono (Q := P) (c_any ?_) ?_)
    · k_steps
      · (rename Fr _ _ _ _ => F'); (rename News _ _ _ _ => N')
        obtain ⟨vN, hvN⟩ : ∃ vN : Nat, v' = (vN : Int) := ⟨v'.toNat, by omega⟩
        subst hvN
        refine Pi _ _ fun G k => k _ _ _ (0, vN) _ _ vs us nu n' τ' g' c' rfl rfl (.inl ⟨rfl, by omega⟩) (fun _ => by omega) (by assumption) (by omega) hIs (by omega) hus ?_ (News.sub N' (by walk_at "subs")) (by k_ne) (by k_ne) (by k_ne) (by k_ne)
        refine Eq.mp (congrArg (Fr gr L' _) ?_) F'
        walk_at "mpU"
      all_goals
        (rename Fr _ _ _ _ => F'); (rename News _ _ _ _ => N')
        obtain ⟨lN, hlN⟩ : ∃ lN : Nat, l' = (lN : Int) := ⟨l'.toNat, by omega⟩
        obtain ⟨dN, hdN⟩ : ∃ dN : Nat, d' = (dN : Int) := ⟨d'.toNat, by omega⟩
        subst hlN hdN
        rw [List.push_toArray] at N'
        refine Pi _ _ fun G k => k _ _ D' (lN, dN) tl' td' (vs ++ [.int (dN : Int) td']) (us ++ [(dN : Int)]) (nu + 1) n' τ' g' c' rfl rfl (.inr ⟨by omega, by omega, by omega, by omega⟩) (fun h => by omega) (by assumption) (by omega) (IntsAre.append hIs (.cons _ _ .nil)) (by (rw [List.length_append, List.length_singleton]; omega)) ?_ ?_ (by (rw [List.push_toArray]; exact News.sub N' (by walk_at "subs"))) (by k_ne) (by k_ne) (by k_ne) (by k_ne)
        · intro x hx
          rcases List.mem_append.mp hx with hx | hx
          · exact hus x hx
          · rw [List.mem_singleton.mp hx]; exact ⟨by omega, by omega⟩
        · refine Eq.mp (congrArg (Fr gr L' _) ?_) F'
          walk_at "mpU"
    clear F' N' hgr' hc' hIs hul hus hspot
    intro f s' hPf
    refine Pe _ _ _ hPf ?_
    rintro h' tk T p tl1 td1 vs us nu n' τ' g' c' rfl rfl hfit hpl0 hgr' hc' hIs hul hus F' N' hT1 hT2 hT3 hT4
    clear Pi Pe hPf
    try dsimp only
    walk_at "nm"
    walk_at "cStmt"
    try dsimp only
    refine c_nil ?_
    (rename Fr _ _ _ _ => F'); (rename News _ _ _ _ => N')
    have hlen := tellW_len (ws hist ps) p
    rw [← ws_snocA] at hlen
    have hszE : ((ws hist ps).length : Int) + (if (p.1 : Int) > 1 then (p.1 : Int) else 1) = ((ws hist (ps ++ [p])).length : Int) := by
      rw [hlen]; split <;> omega
    rw [hszE] at F'
    have hp9 : p.1 ≤ 9 := by unfold StepFit at hfit; omega
    rw [show (as.map Value.ref) ++ [Value.ref T] = (as ++ [T]).map Value.ref from map_ref_snoc.symm] at N'
    refine' hq1 _ _ (LoopPostX.next1 ((R, listOf ((as ++ [T]).map Value.ref).toArray (nn + 1)) :: (U, listOf vs.toArray nu) :: (a, jarO n' τ' g' o t c' b) :: (T, tupO2 (p.1 : Int) (p.2 : Int) tl1 td1) :: tl) rfl F' N' (by walk_at "subs") (by walk_at "offs") (J1i _ _ _ fun G k => k (some (.int (i : Int) ti)) _ (as ++ [T]) (ps ++ [p]) (nn + 1) vs us nu _ n' τ' g' c' ?mpE rfl hgr' hc' (hTl.cons rfl) ((hPs.mono (fun _ h => List.Mem.tail _ h)).snoc ⟨tl1, td1, List.Mem.head _⟩) (by (rw [List.length_append, List.length_singleton, hpl])) (hFi.snoc hfit) (by omega) hIs hul (fun x hx => by (have := hus x hx; omega)) (fun h => ?spE)))
    case spE =>
      by_cases hs : sp < (i : Int)
      · obtain ⟨q, hq, hq0⟩ := hspot' hs
        exact ⟨q, List.mem_append_left _ hq, hq0⟩
      · refine ⟨p, List.mem_append_right _ (List.mem_singleton_self p), ?_⟩
        by_cases h0 : p.1 = 0
        · exact absurd (by omega : (i : Int) = sp) (hpl0 h0)
        · omega
    case mpE =>
      walk_at "mpU"
  · rintro m₁ nx h₁ tk₁ hJ1 F' N'
    refine J1e _ _ _ _ hJ1 ?_
    clear hJ1
    rintro u tsz as ps nn vs us nu tl n' τ' g' c' rfl rfl hgr' hc' hTl hPs hpl hFi hwl hIs hul hus hspot
    walk_at "nm"
    walk_at "cStmt"
    try dsimp only
    (rename Fr _ _ _ _ => F'); (rename News _ _ _ _ => N')
    have hx1 := Tups.ne hTl N' (a := a) (o := jarO n' τ' g' o t c' b) (by walk_at "mem") (by walk_at "tailmem") (fun h => absurd (Value.type.inj h) (by decide))
    have hR0 := fresh_of hg' N' (a := R) (o := listOf (as.map Value.ref).toArray nn) (by walk_at "mem") (fmc (by k_ne) (List.forall_mem_nil _))
    have hfr : ∀ q ∈ tl, s.heap.get? q.1 = none := fun q hq => fresh_of hg' N' (a := q.1) (o := q.2) (by revert q hq; walk_at "tailmem") (fmc (fun e => hx1 q hq e.symm) (List.forall_mem_nil _))
    have htl : ∀ q ∈ tl, Heap.get? _ q.1 = some q.2 := fun q hq => (N' q (by revert q hq; walk_at "tailmem")).1
    exact hq0 _ _ (BackW.fin (mods := [a]) F' N N' hg' (by walk_at "modsub") fun F K => ⟨_, rfl, ret _ n' τ' g' c' _ R as nn hist th ps tl _ hgr' (by omega) F K (N'.get (a := a) (by walk_at "mem")) (fresh_of hg' N' (List.Mem.head _) (fmc (by k_ne) (List.forall_mem_nil _))) hR0 (by k_ne) (N' _ (List.Mem.head _)).1 ((N' (R, listOf (as.map Value.ref).toArray nn) (by walk_at "mem")).1) hTl htl hfr (by (with_reducible rename _ ∧ _ ∧ _ ∧ AllLt _ tl => hz); exact AllLt.ne hz.2.2.2) hPs hFi hhl (by omega) (by omega) (hspot (by omega))⟩)
end

/-! text T1 -/
theorem News.addTail {h h' h₀ : Heap} {L : Addr} {m : Str → Option Value} {rest tl : List (Addr × Obj)} (F : Fr h₀ L h m) (hfr : ∀ p ∈ tl, h.get? p.1 = none) (htl : ∀ p ∈ tl, h'.get? p.1 = some p.2) (hr : News h₀ L h' rest) : News h₀ L h' (rest ++ tl) := fun p hp => by
  rcases List.mem_append.mp hp with hp | hp
  · exact hr p hp
  · refine ⟨htl p hp, fun x => ?_, ?_⟩
    · obtain ⟨oL, _, _, hL, _⟩ := F.ns
      have := hfr p hp
      rw [x, hL] at this; cases this
    · cases e : h₀.get? p.1 with
      | none => rfl
      | some o => have := F.keep _ _ e; rw [hfr p hp] at this; cases this
theorem bytesI {prog : Program} {w : World} {A : Around} {E : Value → Shared → Prop} {s : Shared} {h₀ : Heap} {L l : Addr} {m : Str → Option Value} {news : List (Addr × Obj)} {n : Nat} {vs : List Value} {ns : List Int} {bs : List UInt8} {Q : Value → Shared → Prop} (F : Fr h₀ L s.heap m) (N : News h₀ L s.heap news) (hm : (l, listOf vs.toArray n) ∈ news) (hi : IntsAre vs ns) (hr : ∀ n ∈ ns, 0 ≤ n ∧ n < 256) (hz : vs.length ≤ 10000) (hh : A.handled = none) (hb : byteArr ns = bs.toArray)
    (q : ∀ h' t k, Fr h₀ L h' m → News h₀ L h' news → Q (.bytes bs.toArray t) { s with heap := h', toks := k }) : wpAny (model prog w) A (call (.type "bytes") [.ref l]) Q E s :=
  call_bytes_ints ⟨_, (N _ hm).1, rfl, _, rfl⟩ hi hr (by rw [sizeLine_eq]; omega) hh fun h' t k hk => by rw [hb]; exact q h' t k (F.keeps hk) (N.grown hk)
theorem ln_T1_1 : True := by
  k_with "call type:bytes" => (k_here; (with_reducible show wpAny _ _ (call (Value.type "bytes") [Value.ref _]) _ _ _); k_dflt ((rename Fr _ _ _ _ => F'); (rename News _ _ _ _ => N'); (refine bytesI F' N' (List.Mem.head _) hIs' hbr (by omega) (by rfl) hsi ?_); intro h' t' k' F' N'; (try dsimp only)))
  trivial
theorem eqB_same {prog : Program} {w : World} {A : Around} {E : Value → Shared → Prop} {s : Shared} {r : List UInt8} {t u : Tok} {Q : Value → Shared → Prop} (q : Q (.bool true) s) : wpAny (model prog w) A (compareOp .Eq (.bytes r.toArray t) (.bytes r.toArray u)) Q E s := eqB (by simpa using q)
theorem ln_T1_2 : True := by
  k_with "compareOp Eq bytes bytes" => (k_here; (try rw [cutB_from]); (with_reducible refine eqB_same ?_); (try dsimp only))
  trivial
structure Hold (p : Prop) : Prop where
  out : p
theorem rest_invH {prog : Program} {w : World} {A : Around} {h₀ : Heap} {L : Addr} {m : Str → Option Value} {env : Env} {elt : PySem.Expr} {x : Str} {scope : Scope} {cl : List (Str × Addr)} {s : Shared} {S : List (Addr × Obj) → Prop} {P : Nat → Value → Prop} {Fin : List Value → List (Addr × Obj) → Prop} {news : List (Addr × Obj)} {n : Nat}
    (J : Nat → List Value → List (Addr × Obj) → Prop) (h0 : Hold (J 0 [] news))
    (turn : Hold (∀ i v ys nx I oI C oC D m₂ h tk (E' : Value → Shared → Prop), i < n → P i v → J i ys nx → LCg.NsObj oC m₂ → m₂ x = some v → Fr h₀ L h m → News h₀ L h ((I, oI) :: (C, oC) :: (D, LCg.lst ys) :: nx) → LCg.Off3 I C D nx → ((@Ne Nat I C) ∧ (@Ne Nat I D) ∧ (@Ne Nat C D)) →
      wpAny (model prog w) A (eval elt (compEnvC scope cl C env)) (LCg.CompEnd h₀ L m { s with heap := h, toks := tk } I oI C oC D (LCg.lst ys) S (fun y nx' => J (i + 1) (ys ++ [y]) nx')) E' { s with heap := h, toks := tk }))
    (fin : Hold (∀ ys nx, J n ys nx → Fin ys nx)) : LCg.CompRest prog w A h₀ L m env elt x scope cl s S P Fin n 0 [] news := rest_inv J h0.out turn.out fin.out
theorem ln_T1_3 : True := by
  k_with "CompSrc" => (k_here; k_dflt ((refine LCg.CompSrc.range (by rfl) (by k_asm) (by k_asm) (by assumption) (by decide) (by first | exact rangeSize_nat _ _ | rfl) (by (rw [sizeLine_eq]; decide)) ?_); intro gx'; refine rest_invH Jn ?_ ?_ ?_))
  trivial
section
variable {w : World} {A A₀ : Around} {s : Shared} {L : Addr} {h₀ base : Heap} {m mg mb : Str → Option Value} {loose : List Str} {mean : ExcName → Option Value} {env : Env} {outer : List Env} {Q : Value → Shared → Prop} {E : Value → Shared → Prop} {a st : Addr} {n : Nat} {τ : J4} {g o t c : Int} {b : Bool} {as : List Addr} {ps : List (Nat × Nat)} {hist : List UInt8} {th tw : Tok}
theorem named_ok (C : Cx w A A₀ L h₀ base env outer mean mg mb loose 55 250) (F : Fr h₀ L s.heap m) (N : News h₀ L s.heap [(a, jarO n τ g o t c b)]) (hg : 0 ≤ g ∧ g < 10 ^ 60) (ho : 0 ≤ o ∧ o < 1021) (ht : 0 ≤ t ∧ t < 1021) (hc : 0 ≤ c ∧ c ≤ 500)
    (S : StepsAt s.heap st as ps) (hst : st ≠ a) (G : Good hist ps) (hok : ∀ p ∈ ps, (p.1 = 0 ∧ p.2 < 256) ∨ (2 ≤ p.1 ∧ p.1 ≤ 9 ∧ 1 ≤ p.2 ∧ p.2 ≤ 100000))
    (ret : ∀ h' n' τ' g' c' tk, (0 ≤ g' ∧ g' < 10 ^ 60) → (c ≤ c' ∧ c' ≤ c + 4) → Fr h₀ L h' m → Kept s.heap h' [a] → h'.get? a = some (jarO n' τ' g' o t c' b) → Q (.bool true) { s with heap := h', toks := tk }) :
    wpC (model PySem.Challenge.rw_tg0040_01.row.prog w) A (call (.ref 398) [.ref a, .bytes hist.toArray th, .ref st, .bytes (ws hist ps).toArray tw]) Q s := by
  walk_at "start"
  refine c_call ?_
  k_dflt walk_at "enterCC"
  refine c_fold ?_
  intro q0 hq0
  (try dsimp only [jarO] at N')
  k_lt l1'
  rename Obj => oc
  rename oc.data = _ => hoc
  replace F' : Fr g' L' _ (fun y => if y = Str.ofString "whole" then some (Value.bytes (ws hist ps).toArray tw) else if y = Str.ofString "steps" then some (Value.ref st) else if y = Str.ofString "history" then some (Value.bytes hist.toArray th) else none) := F'
  replace hoc : oc.data = .cell (some (.ref a)) := hoc
  obtain ⟨gr, hgr⟩ : ∃ gr, gr = g' := ⟨g', rfl⟩
  subst hgr
  obtain ⟨⟨ol, nn, hol0, hlc, hld⟩, hP⟩ := S
  obtain ⟨Jn, Jni, Jne⟩ := exJ (fun (i : Nat) (ys : List Value) (nx : List (Addr × Obj)) (G : Prop) => ∀ (n' : Nat) (τ' : J4) (g' c' : Int) (ns : List Int), nx = [(L' + 1, oc), (a, jarO n' τ' g' o t c' b)] → (0 ≤ g' ∧ g' < 10 ^ 60) → (c ≤ c' ∧ c' ≤ c + (i : Int)) → IntsAre ys ns → ns.length = i → (∀ x ∈ ns, 1 ≤ x ∧ x ≤ 9) → G)
  walk_at "nm"
  walk_at "cStmt"
  · exact ⟨(Jni _ _ _ fun G k => k n τ g c [] rfl hg ⟨by omega, by omega⟩ .nil rfl (fun _ h => nomatch h))⟩
  · (rename Fr _ _ _ _ => F8); (rename News _ _ _ _ => N8); clear F8 N8
    constructor
    intro i v ys nx I2 oI2 C2 oC2 D2 m₂ h2 tk2 E' hi hP hj hC hx F' N' off' ne'
    refine Jne _ _ _ _ hj ?_
    rintro n' τ' g' c' ns rfl hgr' hc' hIs hnl hns
    simp only [LCg.Off3, and_true] at off'
    k_steps
    exact Jni _ _ _ fun G k => k n' τ' g' c' (ns ++ [1 + v']) rfl hgr' ⟨by omega, by push_cast; omega⟩ (IntsAre.append hIs (.cons _ _ .nil)) (by rw [List.length_append, List.length_singleton, hnl]) (fun x hx => by
      rcases List.mem_append.mp hx with hx | hx
      · exact hns x hx
      · rw [List.mem_singleton.mp hx]; omega)
  · (rename Fr _ _ _ _ => F8); (rename News _ _ _ _ => N8); clear F8 N8
    constructor
    intro ys nx hj
    refine Jne _ _ _ _ hj ?_
    rintro n' τ' g' c' ns rfl hgr' hc' hIs hnl hns
    clear hj
    unfold LCg.FinE
    intro D2 h2 tk2 F' N' off'
    simp only [LCg.Off1, and_true] at off'
    k_steps
    (rename Fr _ _ _ _ => F'); (rename News _ _ _ _ => N')
    have hl4 : ns.length = 4 := hnl
    refine ((fun G k => k _ _ _ _ _ F' (News.sub N' (by walk_at "subs")) (by k_ne) (by k_ne) (by k_ne) (by k_ne) (by k_ne) (by k_ne)) : ∀ G : Prop, (∀ (x dx rl : Addr) (kx : Tok) (nr : Nat), Fr gr L' _ (fun y => if y = Str.ofString "olds" then some (.ref x) else (fun y => if y = Str.ofString "whole" then some (Value.bytes (ws hist ps).toArray tw) else if y = Str.ofString "steps" then some (Value.ref st) else if y = Str.ofString "history" then some (Value.bytes hist.toArray th) else none) y) → News gr L' _ [(x, instObj 217 dx), (dx, repD w.params kx rl), (rl, rowO nr ys), (a, jarO n' τ' g' o t c' b)] → x ≠ dx → x ≠ rl → x ≠ a → dx ≠ rl → dx ≠ a → rl ≠ a → G) → G) _ ?_
    intro x dx rl kx nr F' N' hxd hxr hxa hdr hda hra
    have hol : gr.get? st = some ol := hg' _ _ hol0 (by simpa using hst)
    have hps : PairsAt gr as ps := hP.keeps fun b o e ec => hg' b o e (fun hm => by
      simp only [List.map_cons, List.map_nil, List.mem_singleton] at hm
      subst hm
      have := (N _ (List.Mem.head _)).1
      rw [e] at this
      rw [Option.some.inj this] at ec
      exact absurd (Value.type.inj ec) (by decide))
    have hstr : st ≠ rl := fun e => by
      have := (N' (rl, rowO nr ys) (by walk_at "mem")).2.2
      rw [← e, hol] at this; cases this
    walk_at "nm"
    refine c_cons (c_AssignSwap (c_Tuple2 (c_CallName ?_)))
    k_steps
    walk_at "cWith"
    (rename Fr _ _ _ _ => F'); (rename News _ _ _ _ => N')
    have S2 : StepsAt _ st as ps := ⟨⟨ol, nn, F'.keep _ _ hol, hlc, hld⟩, hps.keeps fun b o e _ => F'.keep b o e⟩
    refine plain_ok (C'.mono (by omega) (by omega)) F' (News.three N' (by walk_at "mem") (by walk_at "mem") (by walk_at "mem")) hIs hl4 S2 hok (by have := G.cnt; omega) hstr fun h3 Dn as' nn' tl tk3 F3 K3 frD eD hTl htl hfr hNm => ?_
    have N2 : News gr L' h3 [(x, instObj 217 dx), (dx, repD w.params kx rl), (rl, rowO nr ys), (a, jarO n' τ' g' o t c' b)] := Kept.news K3 N' (fun _ h => h) (fun _ _ h => nomatch h)
    have l3 := new_ne N' frD
    have N3 : News gr L' h3 ((Dn, listOf (as'.map Value.ref).toArray nn') :: [(x, instObj 217 dx), (dx, repD w.params kx rl), (rl, rowO nr ys), (a, jarO n' τ' g' o t c' b)]) := News.fresh1 F' frD eD N2
    have N4 : News gr L' h3 ((Dn, listOf (as'.map Value.ref).toArray nn') :: (x, instObj 217 dx) :: (dx, repD w.params kx rl) :: (rl, rowO nr ys) :: (a, jarO n' τ' g' o t c' b) :: tl) := News.addTail F' hfr htl N3
    clear N2 N3
    clear F' N'
    refine c_any ?_
    iterate 4 (first | walk1 | (dsimp only; walk1))
    (rename Fr _ _ _ _ => F'); (rename News _ _ _ _ => N')
    refine cp_eval (ax := st) (ol := ol) (vs := as.map Value.ref) (nn := nn) (fun i m₃ => ∃ (p : Nat × Nat) (t1 t2 : Tok), ps[i]? = some p ∧ m₃ (Str.ofString "length") = some (.int (p.1 : Int) t1) ∧ m₃ (Str.ofString "other") = some (.int (p.2 : Int) t2))
      (fun i ys' nx => IntsAre ys' (((ps.take i).filter (fun p => p.1 = 0)).map fun p => (p.2 : Int)) ∧ nx = (Dn, listOf (as'.map Value.ref).toArray nn') :: (x, instObj 217 dx) :: (dx, repD w.params kx rl) :: (rl, rowO nr ys) :: (a, jarO n' τ' g' o t c' b) :: tl) rfl ?hit hlc hld (by (rw [List.length_map, hps.length]; have := G.cnt; omega)) (fun i ys' nx h _ F _ => F.keep _ _ hol) F' N' ⟨.nil, rfl⟩ (by with_unfolding_all rfl) (by decide) rfl (by decide) ?bnd ?trn ?don
    case hit =>
      intro Q' hQ'
      k_steps
      exact hQ'
    case bnd =>
      intro i v ys' nx C₉ m₂ s' Q' hv hj hC F₉ N₉ hn hQ'
      obtain ⟨b, p, t1, t2, rfl, hp, hT⟩ := hps.get hv
      exact cp_bind2 rfl (Fr.tup F₉ hT) hn rfl rfl rfl fun h' tk hn' hk => hQ' h' tk _ ⟨p, t1, t2, hp, rfl, rfl⟩ hn' hk
    case trn =>
      (rename Fr _ _ _ _ => F8); (rename News _ _ _ _ => N8); clear F8 N8
      intro s₂ hZ1 i ys' nx I₉ oI₉ C₉ oC₉ D₉ m₃ h₉ tk₉ hi hZ2 hZ3 hnC off₉ n1 n2 n3 F' N'
      obtain ⟨hs2, rfl⟩ := hZ1
      obtain ⟨p, t1, t2, hp, hm1, hm2⟩ := hZ2
      obtain ⟨hIs', rfl⟩ := hZ3
      have htk : (ps.take (i + 1)).filter (fun p => p.1 = 0) = (ps.take i).filter (fun p => p.1 = 0) ++ (if p.1 = 0 then [p] else []) := by
        rw [List.take_add_one, hp, List.filter_append]
        by_cases h0 : p.1 = 0 <;> simp [h0]
      refine wpAny_tests_one ?_
      by_cases h0 : p.1 = 0
      · rw [if_pos h0] at htk
        k_steps
        (rename Fr _ _ _ _ => F'); (rename News _ _ _ _ => N')
        exact CpEnd.intro F' N' _ (fun _ h => h) off₉ ⟨by rw [htk, List.map_append]; exact IntsAre.append hIs' (.cons _ _ .nil), rfl⟩
      · rw [if_neg h0] at htk
        k_steps
        (rename Fr _ _ _ _ => F'); (rename News _ _ _ _ => N')
        exact CpEnd.intro F' N' _ (fun _ h => h) off₉ ⟨by rw [htk, List.append_nil]; exact hIs', rfl⟩
    case don =>
      (rename Fr _ _ _ _ => F8); (rename News _ _ _ _ => N8); clear F8 N8
      intro D₉ ys' nx h₉ tk₉ hZ1 F' N' off₉
      obtain ⟨hIs', rfl⟩ := hZ1
      rw [List.length_map, hps.length, List.take_length] at hIs'
      have hbr : ∀ z ∈ ((ps.filter (fun p => p.1 = 0)).map fun p => (p.2 : Int)), 0 ≤ z ∧ z < 256 := fun z hz => by
        obtain ⟨p, hp, rfl⟩ := List.mem_map.mp hz
        obtain ⟨hp1, hp2⟩ := List.mem_filter.mp hp
        have := hok p hp1
        simp only [decide_eq_true_eq] at hp2
        omega
      have hyl : ys'.length ≤ 1000 := by
        rw [hIs'.length, List.length_map]
        have := List.length_filter_le (fun p : Nat × Nat => decide (p.1 = 0)) ps
        have := G.cnt
        omega
      have hsi : byteArr ((ps.filter (fun p => p.1 = 0)).map fun p => (p.2 : Int)) = (singles ps).toArray := by
        unfold byteArr singles; rw [List.map_map]; rfl
      k_steps
      (rename Fr _ _ _ _ => F'); (rename News _ _ _ _ => N')
      walk_at "nm"
      refine c_cons (c_Return (c_Compare (c_CallName ?_)))
      k_steps
      walk_at "cWith"
      (rename Fr _ _ _ _ => F'); (rename News _ _ _ _ => N')
      have N5 : News gr L' _ ((Dn, listOf (as'.map Value.ref).toArray nn') :: (x, instObj 217 dx) :: (dx, repD w.params kx rl) :: (rl, rowO nr ys) :: (a, jarO n' τ' g' o t c' b) :: tl) := News.sub N' (by walk_at "subs")
      have hNA : NamesAt _ as' (namesS ns ps) := hNm.at (Frag.In.keeps X' (Fr.keep F')) (fun q hq => (N5 q (by revert q hq; walk_at "tailmem")).1)
      have hDr : Dn ≠ rl := fun e => l3 (rl, rowO nr ys) (by walk_at "mem") e.symm
      refine play_ok (C'.mono (by omega) (by omega)) F' (News.three N5 (by walk_at "mem") (by walk_at "mem") (by walk_at "mem")) hIs hl4 ⟨_, _, (N5 (Dn, listOf (as'.map Value.ref).toArray nn') (List.Mem.head _)).1, rfl, rfl⟩ hNA G hDr fun h6 tr tk6 F6 K6 => ?_
      have N6 : News gr L' h6 ((Dn, listOf (as'.map Value.ref).toArray nn') :: (x, instObj 217 dx) :: (dx, repD w.params kx rl) :: (rl, rowO nr ys) :: (a, jarO n' τ' g' o t c' b) :: tl) := Kept.news K6 N5 (fun _ h => h) (fun _ _ h => nomatch h)
      clear F' N' N5
      have hwl := G.len
      have hwl2 := ws_length ps hist
      k_steps
      (rename Fr _ _ _ _ => F'); (rename News _ _ _ _ => N')
      exact hq0 _ _ (BackW.fin (mods := [a]) F' N N' hg' (by walk_at "modsub") fun F K => ⟨_, rfl, ret _ n' τ' g' c' _ hgr' ⟨hc'.1, by have := hc'.2; push_cast at this; omega⟩ F K (N'.get (a := a) (by walk_at "mem"))⟩)
end

/-! text Z3 -/
theorem its_cons {its : List (Addr × Obj)} {a : Addr} {r : List Addr} (h : its.map (·.1) = a :: r) : ∃ o t, its = (a, o) :: t ∧ t.map (·.1) = r := by
  cases its with
  | nil => cases h
  | cons p t =>
    obtain ⟨b, o⟩ := p
    rw [List.map_cons, List.cons.injEq] at h
    obtain ⟨h1, h2⟩ := h
    exact ⟨o, t, by rw [← h1], h2⟩
theorem its5 {its : List (Addr × Obj)} {a b c d e : Addr} (h : its.map (·.1) = [a, b, c, d, e]) : ∃ o1 o2 o3 o4 o5, its = [(a, o1), (b, o2), (c, o3), (d, o4), (e, o5)] := by
  obtain ⟨o1, t1, e1, h1⟩ := its_cons h
  obtain ⟨o2, t2, e2, h2⟩ := its_cons h1
  obtain ⟨o3, t3, e3, h3⟩ := its_cons h2
  obtain ⟨o4, t4, e4, h4⟩ := its_cons h3
  obtain ⟨o5, t5, e5, h5⟩ := its_cons h4
  exact ⟨o1, o2, o3, o4, o5, by rw [e1, e2, e3, e4, e5, List.map_eq_nil_iff.mp h5]⟩
section
variable {prog : Program} {w : World} {A : Around} {s : Shared} {env : Env} {target : PySem.Expr} {body : List Stmt} {R : Flow → Shared → Prop} {g : Heap} {L : Addr} {m : Str → Option Value} {news : List (Addr × Obj)}
theorem iter_zip {elts : List PySem.Expr} {k : Nat} {pos : Pos} {z TI TO i1 i2 l1 l2 : Addr} {lo1 lo2 : Obj} {xs ys : List Value} {n1 n2 : Nat} (hh : A.handled = none) (D : ZipApart z TI TO i1 i2 l1 l2) (hc1 : lo1.cls = .type "list") (hd1 : lo1.data = .seq xs.toArray n1) (hc2 : lo2.cls = .type "list") (hd2 : lo2.data = .seq ys.toArray n2) (hoff1 : l1 ∉ [z, TI, TO, i1, i2]) (hoff2 : l2 ∉ [z, TI, TO, i1, i2]) :
    Iter prog w A (.Tuple elts k pos) z [z, TI, TO, i1, i2] [(l1, lo1), (l2, lo2)] (min xs.length ys.length) (fun i v h => ∃ T x y, v = .ref T ∧ xs[i]? = some x ∧ ys[i]? = some y ∧ IsTup h T #[x, y])
      (fun i h => (IsZip h z TI TO .none ∧ IsPair h TI (.ref i1) (.ref i2) ∧ (∃ a b, IsPair h TO a b) ∧ h.IsListIter i1 l1 i ∧ h.IsListIter i2 l2 i) ∧ h.get? l1 = some lo1 ∧ h.get? l2 = some lo2) := by
  have W := WalksT.zip2 (prog := prog) (w := w) hh z TI TO i1 i2 l1 l2 D xs.toArray ys.toArray
  have toW : ∀ {i h}, ((IsZip h z TI TO .none ∧ IsPair h TI (.ref i1) (.ref i2) ∧ (∃ a b, IsPair h TO a b) ∧ h.IsListIter i1 l1 i ∧ h.IsListIter i2 l2 i) ∧ h.get? l1 = some lo1 ∧ h.get? l2 = some lo2) →
      (IsZip h z TI TO .none ∧ IsPair h TI (.ref i1) (.ref i2) ∧ (∃ a b, IsPair h TO a b) ∧ h.IsListIter i1 l1 i ∧ h.IsListIter i2 l2 i ∧ h.IsList l1 xs.toArray ∧ h.IsList l2 ys.toArray) :=
    fun st => ⟨st.1.1, st.1.2.1, st.1.2.2.1, st.1.2.2.2.1, st.1.2.2.2.2, ⟨_, st.2.1, hc1, _, hd1⟩, ⟨_, st.2.2, hc2, _, hd2⟩⟩
  have wr : ∀ b, b ∉ [z, TI, TO, i1, i2] → b ∉ [z, TO, i1, i2] := fun b hb hm => hb ((List.mem_cons.mp hm).elim (fun e => e ▸ .head _) fun q => .tail _ (.tail _ q))
  refine ⟨fun i h h' st k1 k2 => ?_, fun i h st => ?_, fun i s Q hi st hQ => ?_, fun s Q st hQ => ?_⟩
  · have q0 : IsZip h' z TI TO .none := k1 z (.head _) _ st.1.1
    have q1 : IsPair h' TI (.ref i1) (.ref i2) := k1 TI (.tail _ (.head _)) _ st.1.2.1
    exact ⟨⟨q0, q1, st.1.2.2.1.imp fun a => Exists.imp fun b q => k1 TO (.tail _ (.tail _ (.head _))) _ q, st.1.2.2.2.1.at fun o e => k1 i1 (.tail _ (.tail _ (.tail _ (.head _)))) o e, st.1.2.2.2.2.at fun o e => k1 i2 (.tail _ (.tail _ (.tail _ (.tail _ (.head _))))) o e⟩,
      k2 _ (.head _) st.2.1, k2 _ (.tail _ (.head _)) st.2.2⟩
  · exact fmc ⟨_, st.1.1⟩ (fmc ⟨_, st.1.2.1⟩ (fmc (st.1.2.2.1.elim fun a q => q.elim fun b q => ⟨_, q⟩) (fmc (st.1.2.2.2.1.imp fun _ q => q.1) (fmc (st.1.2.2.2.2.imp fun _ q => q.1) (List.forall_mem_nil _)))))
  · refine W.item i s _ _ (by simpa using hi) (toW st) fun T vals h' tk hP hT hTu hMid hk => ⟨.ref T, rfl, ?_⟩
    refine hP.elim fun x hP => hP.elim fun y hP => ?_
    refine W.go elts k pos i T _ _ _ hMid fun h'' st'' hk'' => ?_
    have kk : ∀ b o, b ∉ [z, TI, TO, i1, i2] → s.heap.get? b = some o → h''.get? b = some o := fun b o hb e => hk'' b o (wr b hb) (hk b o (wr b hb) e)
    exact hQ (.ref T) h'' tk ⟨T, x, y, rfl, by simpa using hP.1, by simpa using hP.2.1, hP.2.2 ▸ hTu.imp fun _ q => ⟨hk'' _ _ (W.apart _ _ _ hMid) q.1, q.2⟩⟩ ⟨⟨st''.1, st''.2.1, st''.2.2.1, st''.2.2.2.1, st''.2.2.2.2.1⟩, kk _ _ hoff1 st.2.1, kk _ _ hoff2 st.2.2⟩ kk
  · exact W.done s _ _ (by simpa using toW st) fun h' tk hk => ⟨rfl, hQ h' tk fun b o hb e => hk b o (wr b hb) e⟩

theorem c_forZip {elts : List PySem.Expr} {kk : Nat} {tpos : Pos} {l1 l2 : Addr} {lo1 lo2 : Obj} {xs ys : List Value} {n1 n2 : Nat} (Gd : Heap → Prop) (J : Nat → (Str → Option Value) → List (Addr × Obj) → Prop) (hh : A.handled = none) (hG : Gd g) (F : Fr g L s.heap m) (N : News g L s.heap news)
    (hc1 : lo1.cls = .type "list") (hd1 : lo1.data = .seq xs.toArray n1) (hc2 : lo2.cls = .type "list") (hd2 : lo2.data = .seq ys.toArray n2)
    (hkp1 : ∀ i g₁ m nx h, Gd g₁ → J i m nx → Fr g₁ L h m → News g₁ L h nx → h.get? l1 = some lo1) (hkp2 : ∀ i g₁ m nx h, Gd g₁ → J i m nx → Fr g₁ L h m → News g₁ L h nx → h.get? l2 = some lo2) (h0 : J 0 m news)
    (turn : ∀ i T x y g₁ m₁ nx h tk z TI TO i1 i2 oz oTI oTO o1 o2, i < min xs.length ys.length → xs[i]? = some x → ys[i]? = some y → IsTup h T #[x, y] → Gd g₁ → J i m₁ nx → (∀ p ∈ nx, p.1 ≠ z) → (∀ p ∈ nx, p.1 ≠ TI) → (∀ p ∈ nx, p.1 ≠ TO) → (∀ p ∈ nx, p.1 ≠ i1) → (∀ p ∈ nx, p.1 ≠ i2) → Fr g₁ L h m₁ → News g₁ L h ((z, oz) :: (TI, oTI) :: (TO, oTO) :: (i1, o1) :: (i2, o2) :: nx) →
      wpAny (model prog w) A (assign (.Tuple elts kk tpos) env (.ref T)) (fun _ s₂ => wpC (model prog w) A (execs body env) (LoopPostX Gd L J (i + 1) [(z, oz), (TI, oTI), (TO, oTO), (i1, o1), (i2, o2)] R s) s₂) nE { s with heap := h, toks := tk })
    (done : ∀ g₁ m₁ nx h tk, Gd g₁ → J (min xs.length ys.length) m₁ nx → Fr g₁ L h m₁ → News g₁ L h nx → R .next { s with heap := h, toks := tk }) :
    wpAny (model prog w) A (call (.type "zip") [.ref l1, .ref l2]) (fun x s₁ => wpAny (model prog w) A (pyIter x) (fun it s₂ => codeC (model prog w) A (.forLoop (.Tuple elts kk tpos) it body [] env) R s₂) nE s₁) nE s := by
  have hol1 := hkp1 _ _ _ _ _ hG h0 F N
  have hol2 := hkp2 _ _ _ _ _ hG h0 F N
  have hlt1 : l1 < s.heap.objs.size := Heap.lt_size hol1
  have hlt2 : l2 < s.heap.objs.size := Heap.lt_size hol2
  have hLs : L < s.heap.objs.size := F.ns.lt
  refine call_zip_2 (xs := xs.toArray) (ys := ys.toArray) ⟨_, hol1, hc1, _, hd1⟩ ⟨_, hol2, hc2, _, hd2⟩ fun h' hz hTI hTO hi1 hi2 hsz hk => ?_
  refine wpAny_pyIter_zip hz ?_
  have D : ZipApart (s.heap.objs.size + 4) (s.heap.objs.size + 2) (s.heap.objs.size + 3) s.heap.objs.size (s.heap.objs.size + 1) l1 l2 := ktu_apart _ _ _ hlt1 hlt2
  have far : ∀ {a : Addr}, a < s.heap.objs.size → a ∉ [s.heap.objs.size + 4, s.heap.objs.size + 2, s.heap.objs.size + 3, s.heap.objs.size, s.heap.objs.size + 1] := fun {a} ha hm =>
    fmc (p := fun b : Addr => a ≠ b) (ktu_ne 4 ha) (fmc (ktu_ne 2 ha) (fmc (ktu_ne 3 ha) (fmc (Nat.ne_of_lt ha) (fmc (ktu_ne 1 ha) (List.forall_mem_nil _))))) _ hm rfl
  refine c_forX Gd J (iter_zip hh D hc1 hd1 hc2 hd2 (far hlt1) (far hlt2)) (fun i g₁ m nx h a b c d => fmc (hkp1 i g₁ m nx h a b c d) (fmc (hkp2 i g₁ m nx h a b c d) (List.forall_mem_nil _))) ⟨⟨hz, hTI, ⟨_, _, hTO⟩, hi1, hi2⟩, hk _ _ hol1, hk _ _ hol2⟩ hG (F.keeps hk) (N.grown hk) (fun p hp => far (Heap.lt_size (N p hp).1))
    (fmc (ktu_new F (Nat.le_add_right _ _)) (fmc (ktu_new F (Nat.le_add_right _ _)) (fmc (ktu_new F (Nat.le_add_right _ _)) (fmc (ktu_new F (Nat.le_refl _)) (fmc (ktu_new F (Nat.le_add_right _ _)) (List.forall_mem_nil _)))))) (far hLs) h0 ?_ done
  intro i v g₁ m₁ nx h tk its hi hv hG₁ hj hm ho F₁ N₁
  obtain ⟨oz, oTI, oTO, o1, o2, rfl⟩ := its5 hm
  obtain ⟨T, x, y, rfl, hv⟩ := hv
  exact turn i T x y g₁ m₁ nx h tk _ _ _ _ _ oz oTI oTO o1 o2 hi hv.1 hv.2.1 hv.2.2 hG₁ hj (fun p hp e => ho p hp (e ▸ .head _)) (fun p hp e => ho p hp (e ▸ .tail _ (.head _))) (fun p hp e => ho p hp (e ▸ .tail _ (.tail _ (.head _)))) (fun p hp e => ho p hp (e ▸ .tail _ (.tail _ (.tail _ (.head _))))) (fun p hp e => ho p hp (e ▸ .tail _ (.tail _ (.tail _ (.tail _ (.head _)))))) F₁ N₁
end
theorem LoopPostX.next5 {Gd : Heap → Prop} {g : Heap} {L z TI TO i1 i2 : Addr} {oz oTI oTO o1 o2 : Obj} {J : Nat → (Str → Option Value) → List (Addr × Obj) → Prop} {i : Nat} {R : Flow → Shared → Prop} {s : Shared} {h' : Heap} {tk : Nat} {m' : Str → Option Value} (nx' : List (Addr × Obj)) {nx news : List (Addr × Obj)}
    (hG : Gd g) (F : Fr g L h' m') (N : News g L h' news) (hs : ∀ p ∈ (z, oz) :: (TI, oTI) :: (TO, oTO) :: (i1, o1) :: (i2, o2) :: nx', p ∈ news) (a1 : ∀ p ∈ nx, p.1 ≠ z) (a2 : ∀ p ∈ nx, p.1 ≠ TI) (a3 : ∀ p ∈ nx, p.1 ≠ TO) (a4 : ∀ p ∈ nx, p.1 ≠ i1) (a5 : ∀ p ∈ nx, p.1 ≠ i2) (hm : nx'.map (·.1) = nx.map (·.1)) (hj : J i m' nx') :
    LoopPostX Gd L J i [(z, oz), (TI, oTI), (TO, oTO), (i1, o1), (i2, o2)] R s .next { s with heap := h', toks := tk } :=
  .next nx' hG F N hs (fun p hp e => by
    have hp' : p.1 ∈ nx.map (·.1) := hm ▸ List.mem_map_of_mem hp
    obtain ⟨q, hq, e2⟩ := List.mem_map.mp hp'
    simp only [List.map_cons, List.map_nil, List.mem_cons, List.not_mem_nil, or_false] at e
    rw [← e2] at e
    rcases e with e | e | e | e | e
    · exact a1 q hq e
    · exact a2 q hq e
    · exact a3 q hq e
    · exact a4 q hq e
    · exact a5 q hq e) hj

/-! text E1 -/
section
open PyProof.V PySem.Spec PySem.SeqAt
theorem reads_tup_ints {h : Heap} {a : Addr} {vs : List Value} {ns : List Int} {n : Nat} (ho : h.get? a = some { cls := .type "tuple", data := .seq vs.toArray n }) (hi : IntsAre vs ns) : Reads h (.ref a) (.tuple (ns.map PyData.int)) [] :=
  Reads.tuple ho rfl rfl (by simpa using readsAll_of_ints hi)
theorem shaped_tup_ints (ns : List Int) : SeqAt.shaped (.tuple (ns.map PyData.int)) = true := by
  have h1 := W.depthAll_ints ns
  have h2 : PyData.depth (.tuple (ns.map PyData.int)) ≤ 64 := by simp only [PyData.depth]; omega
  show (PyData.canLay0 (.tuple (ns.map PyData.int)) && decide (PyData.depth (.tuple (ns.map PyData.int)) ≤ 64)) = true
  rw [Bool.and_eq_true]
  exact ⟨by simp only [PyData.canLay0]; exact canLayAll0_ints ns, decide_eq_true h2⟩
theorem eqT3 {prog : Program} {w : World} {A : Around} {E : Value → Shared → Prop} {s : Shared} {h₀ : Heap} {L a b : Addr} {news : List (Addr × Obj)} {Q : Value → Shared → Prop} {x y z : Int} {t1 t2 t3 u1 u2 u3 : Tok} (N : News h₀ L s.heap news) (h1 : (a, ({ cls := .type "tuple", data := .seq #[.int x t1, .int y t2, .int z t3] } : Obj)) ∈ news) (h2 : (b, ({ cls := .type "tuple", data := .seq #[.int x u1, .int y u2, .int z u3] } : Obj)) ∈ news) (hu : A.units + 64 < cLine) (q : Q (.bool true) s) : wpAny (model prog w) A (compareOp .Eq (.ref a) (.ref b)) Q E s := by
  refine eq_dataH_same (reads_tup_ints (vs := [.int x t1, .int y t2, .int z t3]) (ns := [x, y, z]) (N _ h1).1 (.cons _ _ (.cons _ _ (.cons _ _ .nil)))) (reads_tup_ints (vs := [.int x u1, .int y u2, .int z u3]) (ns := [x, y, z]) (N _ h2).1 (.cons _ _ (.cons _ _ (.cons _ _ .nil)))) (shaped_tup_ints _) (shaped_tup_ints _) hu (by simp only [SeqAt.noMix]; exact noMix_ints _ _) ?_
  simp only [PySem.Spec.same]
  rw [same_ints]
  simpa using q
end

/-! text T2 -/
theorem ln_T2_1 : True := by
  k_with "call ref" => (k_here; (with_reducible show wpAny _ _ (call (Value.ref 353) _) _ _ _); k_dflt ((rename Fr _ _ _ _ => F'); (rename News _ _ _ _ => N'); (try dsimp only at N'); (refine value_spec (C'.mono (by omega) (by omega)) F' (News.two N' (by walk_at "mem") (by walk_at "mem")) (by unfold RowFit at hrf; omega) (by omega) ?_); intro h' τ9 r' tk' er' F' K' e' tv'; (replace N' := News.put1 N' K' (by k_updF) e'); (try dsimp only at N' ⊢)))
  k_with "call ref" => (k_here; (with_reducible show wpAny _ _ (call (Value.ref 346) _) _ _ _); k_dflt ((rename Fr _ _ _ _ => F'); (rename News _ _ _ _ => N'); (try dsimp only at N'); (refine distance_spec (C'.mono (by omega) (by omega)) F' (News.two N' (by walk_at "mem") (by walk_at "mem")) hvr (by omega) hdne ?_); intro h' τ9 d' r' tk' ed' er' F' K' e' td'; (replace N' := News.put1 N' K' (by k_updF) e'); (try dsimp only at N' ⊢)))
  k_with "compareOp Eq bytes bytes" => (k_here; rw [hreq]; (with_reducible refine eqB_same ?_); (try dsimp only))
  k_with "compareOp Eq ref ref" => (k_here; k_dflt ((rename News _ _ _ _ => N'); (refine eqT3 N' (by walk_at "mem") (by walk_at "mem") (by have := C'.hu; omega) ?_); (try dsimp only)))
  k_with "call ref" => (k_here; (with_reducible show wpAny _ _ (call (Value.ref 318) _) _ _ _); k_dflt ((rename Fr _ _ _ _ => F'); (rename News _ _ _ _ => N'); (try dsimp only at N'); (have F9 := F'); (refine row_spec (C'.mono (by omega) (by omega)) F' (News.two N' (by walk_at "mem") (by walk_at "mem")) ?_); intro h' D' tk' F' K' fr' e1'; (have l1 := new_ne N' fr'); (replace N' := News.fresh1 F9 fr' e1' (Kept.news K' N' (fun _ h => h) (fun _ _ h => nomatch h))); clear F9; (try dsimp only at N' ⊢)))
  trivial
theorem ints3 {vs : List Value} {ns : List Int} (h : IntsAre vs ns) (hl : ns.length = 3) : ∃ x0 t0 x1 t1 x2 t2, vs = [Value.int x0 t0, Value.int x1 t1, Value.int x2 t2] ∧ ns = [x0, x1, x2] := by
  cases h with
  | nil => cases hl
  | cons a ta h =>
    cases h with
    | nil => cases hl
    | cons b tb h =>
      cases h with
      | nil => cases hl
      | cons c tc h =>
        cases h with
        | nil => exact ⟨a, ta, b, tb, c, tc, rfl, rfl⟩
        | cons d td h => simp at hl
section
variable {w : World} {A A₀ : Around} {s : Shared} {L : Addr} {h₀ base : Heap} {m mg mb : Str → Option Value} {loose : List Str} {mean : ExcName → Option Value} {env : Env} {outer : List Env} {Q : Value → Shared → Prop} {E : Value → Shared → Prop} {a st : Addr} {n : Nat} {τ : J4} {g o t c : Int} {b : Bool} {as : List Addr} {ps : List (Nat × Nat)} {hist : List UInt8} {th tw twd : Tok} {wd : Nat}
theorem values_ok (C : Cx w A A₀ L h₀ base env outer mean mg mb loose 65 280) (F : Fr h₀ L s.heap m) (N : News h₀ L s.heap [(a, jarO n τ g o t c b)]) (hg : 0 ≤ g ∧ g < 10 ^ 60) (ho : 0 ≤ o ∧ o < 1021) (ht : 0 ≤ t ∧ t < 1021) (hc : 0 ≤ c ∧ c ≤ 500)
    (S : StepsAt s.heap st as ps) (hst : st ≠ a) (G : Good hist ps) (hFi : Fits hist ps) (hwd : ∀ p ∈ ps, 0 < p.1 → p.2 ≤ wd) (hw : 1 ≤ wd ∧ wd ≤ 100000)
    (ret : ∀ h' n' τ' g' c' tk, (0 ≤ g' ∧ g' < 10 ^ 60) → (c ≤ c' ∧ c' ≤ c + 3) → Fr h₀ L h' m → Kept s.heap h' [a] → h'.get? a = some (jarO n' τ' g' o t c' b) → Q (.bool true) { s with heap := h', toks := tk }) :
    wpC (model PySem.Challenge.rw_tg0040_01.row.prog w) A (call (.ref 403) [.ref a, .bytes hist.toArray th, .ref st, .bytes (ws hist ps).toArray tw, .int (wd : Int) twd]) Q s := by
  walk_at "start"
  refine c_call ?_
  k_dflt walk_at "enterCC"
  refine c_fold ?_
  intro q0 hq0
  (try dsimp only [jarO] at N')
  k_lt l1'
  obtain ⟨⟨ol, nn, hol0, hlc, hld⟩, hP⟩ := S
  rename_i ocw ocj hcw hcj
  replace F' : Fr g' L' _ (fun y => if y = Str.ofString "width" then some (Value.int (wd : Int) twd) else if y = Str.ofString "whole" then some (Value.bytes (ws hist ps).toArray tw) else if y = Str.ofString "steps" then some (Value.ref st) else if y = Str.ofString "history" then some (Value.bytes hist.toArray th) else none) := F'
  replace hcw : ocw.data = .cell none := hcw
  replace hcj : ocj.data = .cell (some (.ref a)) := hcj
  obtain ⟨gr, hgr⟩ : ∃ gr, gr = g' := ⟨g', rfl⟩
  subst hgr
  have hol : gr.get? st = some ol := hg' _ _ hol0 (by simpa using hst)
  have hps : PairsAt gr as ps := hP.keeps fun b o e ec => hg' b o e (fun hm => by
    simp only [List.map_cons, List.map_nil, List.mem_singleton] at hm
    subst hm
    have := (N _ (List.Mem.head _)).1
    rw [e] at this
    rw [Option.some.inj this] at ec
    exact absurd (Value.type.inj ec) (by decide))
  clear hP hol0
  have hLn : L' + 1 + 1 ≠ L' + 1 := neN (by omega)
  obtain ⟨Jn, Jni, Jne⟩ := exJ (fun (i : Nat) (ys : List Value) (nx : List (Addr × Obj)) (G : Prop) => ∀ (n' : Nat) (τ' : J4) (g' c' : Int) (ns : List Int), nx = [(L' + 1 + 1, ocw), (L' + 1, ocj), (a, jarO n' τ' g' o t c' b)] → (0 ≤ g' ∧ g' < 10 ^ 60) → (c ≤ c' ∧ c' ≤ c + (i : Int)) → IntsAre ys ns → ns.length = i → (∀ x ∈ ns, 1 ≤ x ∧ x ≤ 9) → G)
  walk_at "nm"
  walk_at "cStmt"
  · exact ⟨(Jni _ _ _ fun G k => k n τ g c [] rfl hg ⟨by omega, by omega⟩ .nil rfl (fun _ h => nomatch h))⟩
  · (rename Fr _ _ _ _ => F8); (rename News _ _ _ _ => N8); clear F8 N8
    constructor
    intro i v ys nx I2 oI2 C2 oC2 D2 m₂ h2 tk2 E' hi hP hj hC hx F' N' off' ne'
    refine Jne _ _ _ _ hj ?_
    rintro n' τ' g' c' ns rfl hgr' hc' hIs hnl hns
    simp only [LCg.Off3, and_true] at off'
    k_steps
    exact Jni _ _ _ fun G k => k n' τ' g' c' (ns ++ [1 + v']) rfl hgr' ⟨by omega, by push_cast; omega⟩ (IntsAre.append hIs (.cons _ _ .nil)) (by rw [List.length_append, List.length_singleton, hnl]) (fun x hx => by
      rcases List.mem_append.mp hx with hx | hx
      · exact hns x hx
      · rw [List.mem_singleton.mp hx]; omega)
  · (rename Fr _ _ _ _ => F8); (rename News _ _ _ _ => N8); clear F8 N8
    constructor
    intro ys nx hj
    refine Jne _ _ _ _ hj ?_
    rintro n' τ' g' c' ns rfl hgr' hc' hIs hnl hns
    clear hj
    unfold LCg.FinA
    intro D2 h2 tk2 F' N' off'
    simp only [LCg.Off1, and_true] at off'
    have hnl3 : ns.length = 3 := hnl
    obtain ⟨x0, t0, x1, t1, x2, t2, rfl, rfl⟩ := ints3 hIs hnl3
    have hx0 := hns x0 (by simp)
    have hx1 := hns x1 (by simp)
    have hx2 := hns x2 (by simp)
    have hd0 : [x0, x1, x2].getD (Int.toNat 0) 0 = x0 := rfl
    have hd1 : [x0, x1, x2].getD (Int.toNat 1) 0 = x1 := rfl
    have hd2 : [x0, x1, x2].getD (Int.toNat 2) 0 = x2 := rfl
    try dsimp only
    walk_at "nm"
    walk_at "cStmt"
    (rename Fr _ _ _ _ => F'); (rename News _ _ _ _ => N')
    rename_i ocw2 hcw2 _
    refine ((fun G k => k _ _ _ _ ⟨_, _, _, _, _, _⟩ ⟨_, _, _, _, _, _⟩ F' hcw2 (News.sub N' (by walk_at "subs")) (by k_ne) (by k_ne) (by k_ne) (by k_ne) (by k_ne) (by k_ne) (by k_ne) (by k_ne) (by k_ne) (by k_ne) (by k_ne) (by k_ne) (by k_ne) (by k_ne) (by k_ne)) : ∀ G : Prop, (∀ (wx wdx ox odx : Addr) (τw τo : OT), Fr gr L' _ (fun y => if y = Str.ofString "reading" then some (.ref ox) else if y = Str.ofString "three" then some (.ref D2) else (fun y => if y = Str.ofString "width" then some (Value.int (wd : Int) twd) else if y = Str.ofString "whole" then some (Value.bytes (ws hist ps).toArray tw) else if y = Str.ofString "steps" then some (Value.ref st) else if y = Str.ofString "history" then some (Value.bytes hist.toArray th) else none) y) → ocw2.data = .cell (some (.ref wx)) → News gr L' _ [(wx, instObj 356 wdx), (wdx, offD w.params τw x0 x1 x2), (ox, instObj 356 odx), (odx, offD w.params τo x0 x1 x2), (L' + 1 + 1, ocw2), (a, jarO n' τ' g' o t c' b)] → wx ≠ wdx → wx ≠ ox → wx ≠ odx → wdx ≠ ox → wdx ≠ odx → ox ≠ odx → wx ≠ L' + 1 + 1 → wdx ≠ L' + 1 + 1 → ox ≠ L' + 1 + 1 → odx ≠ L' + 1 + 1 → wx ≠ a → wdx ≠ a → ox ≠ a → odx ≠ a → L' + 1 + 1 ≠ a → G) → G) _ ?_
    intro wx wdx ox odx τw τo F' hcw3 N' q1 q2 q3 q4 q5 q6 q7 q8 q9 q10 q11 q12 q13 q14 q15
    clear hcw hcw2 hcj
    have S2 : StepsAt _ st as ps := ⟨⟨ol, nn, F'.keep _ _ hol, hlc, hld⟩, hps.keeps fun b o e _ => F'.keep b o e⟩
    have hokS := G.ok
    have hcnt := G.cnt
    walk_at "nm"
    refine c_cons (c_AssignTuple (c_CallName ?_))
    k_steps
    walk_at "cWith"
    (rename Fr _ _ _ _ => F'); (rename News _ _ _ _ => N')
    refine runs_ok (C'.mono (by omega) (by omega)) F' (S2.keeps fun b o e _ => by first | exact e | (have := F'.keep b o; assumption)) hokS (by omega) fun h3 Dr R tr as' nn' tl tk3 F3 K3 frD frR hDR eD eR hTl htl hfr hoffD hRows => ?_
    have N2 : News gr L' h3 [(wx, instObj 356 wdx), (wdx, offD w.params τw x0 x1 x2), (ox, instObj 356 odx), (odx, offD w.params τo x0 x1 x2), (L' + 1 + 1, ocw2), (a, jarO n' τ' g' o t c' b)] := Kept.news K3 N' (fun _ h => h) (fun _ _ h => nomatch h)
    have l3 := new_ne N' frR
    have N3 : News gr L' h3 [(Dr, { cls := .type "tuple", data := .seq #[.ref R, .bytes (runsF ps).2.toArray tr] }), (wx, instObj 356 wdx), (wdx, offD w.params τw x0 x1 x2), (ox, instObj 356 odx), (odx, offD w.params τo x0 x1 x2), (L' + 1 + 1, ocw2), (a, jarO n' τ' g' o t c' b), (R, listOf (as'.map Value.ref).toArray nn')] := News.fresh1 F' frD eD (fun p hp => by
      rcases List.mem_append.mp (show p ∈ [(wx, instObj 356 wdx), (wdx, offD w.params τw x0 x1 x2), (ox, instObj 356 odx), (odx, offD w.params τo x0 x1 x2), (L' + 1 + 1, ocw2), (a, jarO n' τ' g' o t c' b)] ++ [(R, listOf (as'.map Value.ref).toArray nn')] from hp) with hp | hp
      · exact N2 p hp
      · exact News.fresh1 F' frR eR News.nil p hp)
    have N4 : News gr L' h3 ((Dr, { cls := .type "tuple", data := .seq #[.ref R, .bytes (runsF ps).2.toArray tr] }) :: (wx, instObj 356 wdx) :: (wdx, offD w.params τw x0 x1 x2) :: (ox, instObj 356 odx) :: (odx, offD w.params τo x0 x1 x2) :: (L' + 1 + 1, ocw2) :: (a, jarO n' τ' g' o t c' b) :: (R, listOf (as'.map Value.ref).toArray nn') :: tl) := News.addTail F' hfr htl N3
    clear N2 N3 F' N' S2
    k_steps
    (rename Fr _ _ _ _ => F'); (rename News _ _ _ _ => N')
    have hrl := hRows.length
    have hrn := runsF_len ps
    have hrfit := rows_fit (t := hist) (P := fun d => d ≤ wd) ps hFi hwd
    have hRa : ∀ q ∈ tl, q.1 ≠ wdx := fun q hq => Tups.ne hTl N' (a := wdx) (o := offD w.params τw x0 x1 x2) (by walk_at "mem") (by walk_at "tailmem") (fun h => absurd (Value.type.inj h) (by decide)) q hq
    have N5 : News gr L' _ ((wx, instObj 356 wdx) :: (wdx, offD w.params τw x0 x1 x2) :: (ox, instObj 356 odx) :: (odx, offD w.params τo x0 x1 x2) :: (L' + 1 + 1, ocw2) :: (a, jarO n' τ' g' o t c' b) :: (R, listOf (as'.map Value.ref).toArray nn') :: tl) := News.sub N' (by walk_at "subs")
    have qwR : wdx ≠ R := fun e => l3 (wdx, offD w.params τw x0 x1 x2) (by walk_at "mem") e
    clear N'
    walk_at "nm"
    refine c_consA ?_
    refine cp_assign (ax := R) (ol := listOf (as'.map Value.ref).toArray nn') (vs := as'.map Value.ref) (nn := nn')
      (fun i m₃ => ∃ (r : RunR) (t1 t2 t3 : Tok) (a' : Addr), (runsF ps).1[i]? = some r ∧ (a', rowT t1 t2 t3 r) ∈ tl ∧ m₃ (Str.ofString "ahead") = some (.bytes r.1.toArray t1) ∧ m₃ (Str.ofString "length") = some (.int (r.2.1 : Int) t2) ∧ m₃ (Str.ofString "distance") = some (.int (r.2.2 : Int) t3))
      (fun i ys nx => ∃ τw, IntsAre ys (valsF (x0, x1, x2) ((runsF ps).1.take i)) ∧ nx = (wx, instObj 356 wdx) :: (wdx, offD w.params τw (offsF (x0, x1, x2) ((runsF ps).1.take i)).1 (offsF (x0, x1, x2) ((runsF ps).1.take i)).2.1 (offsF (x0, x1, x2) ((runsF ps).1.take i)).2.2) :: (ox, instObj 356 odx) :: (odx, offD w.params τo x0 x1 x2) :: (L' + 1 + 1, ocw2) :: (a, jarO n' τ' g' o t c' b) :: (R, listOf (as'.map Value.ref).toArray nn') :: tl) rfl ?hit rfl rfl (by (rw [List.length_map]; omega)) ?src F' N5 ⟨τw, .nil, rfl⟩ (by with_unfolding_all rfl) (by decide) rfl (by decide) rfl (by with_unfolding_all rfl) rfl rfl ?bnd ?trn ?don
    case hit =>
      intro Q' hQ'
      k_steps
      exact hQ'
    case src =>
      intro i ys nx h hZ1 _ N₉
      obtain ⟨τw, _, rfl⟩ := hZ1
      exact (N₉ (R, listOf (as'.map Value.ref).toArray nn') (by walk_at "mem")).1
    case bnd =>
      intro i v ys nx C₉ m₂ s' Q' hv hZ1 hC F₉ N₉ hn hQ'
      obtain ⟨τw, _, rfl⟩ := hZ1
      obtain ⟨a', r, t1, t2, t3, rfl, hr, hmem⟩ := hRows.get hv
      have hT : IsTup s'.heap a' #[.bytes r.1.toArray t1, .int (r.2.1 : Int) t2, .int (r.2.2 : Int) t3] := ⟨_, (N₉ (a', rowT t1 t2 t3 r) (by revert hmem; generalize (a', rowT t1 t2 t3 r) = p; revert p; walk_at "tailmem")).1, rfl, _, rfl⟩
      exact cp_bind3 rfl hT hn rfl rfl rfl rfl fun h' tk hn' hk => hQ' h' tk _ ⟨r, t1, t2, t3, a', hr, hmem, rfl, rfl, rfl⟩ hn' hk
    case trn =>
      (rename Fr _ _ _ _ => F8); (rename News _ _ _ _ => N8); clear F8 N8
      intro s₂ hZ1 i ys nx I₉ oI₉ C₉ oC₉ D₉ m₃ h₉ tk₉ hi hZ2 hZ3 hnC off₉ n1 n2 n3 F' N'
      obtain ⟨hs2, rfl⟩ := hZ1
      obtain ⟨r, t1, t2, t3, a', hr, hmem, hm1, hm2, hm3⟩ := hZ2
      obtain ⟨τw, hIs', rfl⟩ := hZ3
      have hrf := hrfit i r hr
      have off₉i : ∀ p ∈ (wx, instObj 356 wdx) :: (wdx, offD w.params τw (offsF (x0, x1, x2) ((runsF ps).1.take i)).1 (offsF (x0, x1, x2) ((runsF ps).1.take i)).2.1 (offsF (x0, x1, x2) ((runsF ps).1.take i)).2.2) :: (ox, instObj 356 odx) :: (odx, offD w.params τo x0 x1 x2) :: (L' + 1 + 1, ocw2) :: (a, jarO n' τ' g' o t c' b) :: (R, listOf (as'.map Value.ref).toArray nn') :: tl, p.1 ≠ I₉ := fun p hp => (off₉ p hp).1
      have off₉c : ∀ p ∈ (wx, instObj 356 wdx) :: (wdx, offD w.params τw (offsF (x0, x1, x2) ((runsF ps).1.take i)).1 (offsF (x0, x1, x2) ((runsF ps).1.take i)).2.1 (offsF (x0, x1, x2) ((runsF ps).1.take i)).2.2) :: (ox, instObj 356 odx) :: (odx, offD w.params τo x0 x1 x2) :: (L' + 1 + 1, ocw2) :: (a, jarO n' τ' g' o t c' b) :: (R, listOf (as'.map Value.ref).toArray nn') :: tl, p.1 ≠ C₉ := fun p hp => (off₉ p hp).2.1
      have off₉d : ∀ p ∈ (wx, instObj 356 wdx) :: (wdx, offD w.params τw (offsF (x0, x1, x2) ((runsF ps).1.take i)).1 (offsF (x0, x1, x2) ((runsF ps).1.take i)).2.1 (offsF (x0, x1, x2) ((runsF ps).1.take i)).2.2) :: (ox, instObj 356 odx) :: (odx, offD w.params τo x0 x1 x2) :: (L' + 1 + 1, ocw2) :: (a, jarO n' τ' g' o t c' b) :: (R, listOf (as'.map Value.ref).toArray nn') :: tl, p.1 ≠ D₉ := fun p hp => (off₉ p hp).2.2
      have hr1 : r.1.length ≤ 10000 := Nat.le_trans (rows_len ps r (List.mem_of_getElem? hr)) (by omega)
      refine wpAny_tests_nil ?_
      refine Eq.mpr (if_pos rfl) ?_
      k_steps
      (rename Fr _ _ _ _ => F'); (rename News _ _ _ _ => N')
      have e : r' = offsF (x0, x1, x2) ((runsF ps).1.take (i + 1)) := er'.trans (offsF_snoc hr).symm
      subst e
      exact CpEnd.intro F' N' ((wx, instObj 356 wdx) :: (wdx, offD w.params _ (offsF (x0, x1, x2) ((runsF ps).1.take (i + 1))).1 (offsF (x0, x1, x2) ((runsF ps).1.take (i + 1))).2.1 (offsF (x0, x1, x2) ((runsF ps).1.take (i + 1))).2.2) :: (ox, instObj 356 odx) :: (odx, offD w.params τo x0 x1 x2) :: (L' + 1 + 1, ocw2) :: (a, jarO n' τ' g' o t c' b) :: (R, listOf (as'.map Value.ref).toArray nn') :: tl) (by walk_at "subs") (offM (P := fun z => z ≠ I₉ ∧ z ≠ C₉ ∧ z ≠ D₉) (nx := (wx, instObj 356 wdx) :: (wdx, offD w.params τw (offsF (x0, x1, x2) ((runsF ps).1.take i)).1 (offsF (x0, x1, x2) ((runsF ps).1.take i)).2.1 (offsF (x0, x1, x2) ((runsF ps).1.take i)).2.2) :: (ox, instObj 356 odx) :: (odx, offD w.params τo x0 x1 x2) :: (L' + 1 + 1, ocw2) :: (a, jarO n' τ' g' o t c' b) :: (R, listOf (as'.map Value.ref).toArray nn') :: tl) rfl off₉) ⟨_, by rw [valsF_snoc hr]; exact IntsAre.append hIs' (.cons _ _ .nil), rfl⟩
    case don =>
      (rename Fr _ _ _ _ => F8); (rename News _ _ _ _ => N8); clear F8 N8
      intro V ys nx h₉ tk₉ hZ1 F' N' off₉
      obtain ⟨τw, hIs', rfl⟩ := hZ1
      rw [show (as'.map Value.ref).length = (runsF ps).1.length from by rw [List.length_map, hrl], List.take_length] at hIs' N' off₉
      generalize hw123 : offsF (x0, x1, x2) (runsF ps).1 = w123 at N' off₉
      obtain ⟨w1, w2, w3⟩ := w123
      try dsimp only at N' off₉
      have oV1 : wx ≠ V := off₉ (wx, instObj 356 wdx) (by walk_at "mem")
      have oV2 : wdx ≠ V := off₉ (wdx, offD w.params τw w1 w2 w3) (by walk_at "mem")
      have oV3 : ox ≠ V := off₉ (ox, instObj 356 odx) (by walk_at "mem")
      have oV4 : odx ≠ V := off₉ (odx, offD w.params τo x0 x1 x2) (by walk_at "mem")
      have oV5 : R ≠ V := off₉ (R, listOf (as'.map Value.ref).toArray nn') (by walk_at "mem")
      have oV6 : a ≠ V := off₉ (a, jarO n' τ' g' o t c' b) (by walk_at "mem")
      have oV7 : L' + 1 + 1 ≠ V := off₉ (L' + 1 + 1, ocw2) (by walk_at "mem")
      have oVt : ∀ p ∈ tl, p.1 ≠ V := fun p hp => off₉ p (by revert p hp; walk_at "tailmem")
      have N5 : News gr L' _ ((wx, instObj 356 wdx) :: (wdx, offD w.params τw w1 w2 w3) :: (ox, instObj 356 odx) :: (odx, offD w.params τo x0 x1 x2) :: (L' + 1 + 1, ocw2) :: (a, jarO n' τ' g' o t c' b) :: (R, listOf (as'.map Value.ref).toArray nn') :: (V, LCg.lst ys) :: tl) := News.sub N' (fmc (by walk_at "mem") (fmc (by walk_at "mem") (fmc (by walk_at "mem") (fmc (by walk_at "mem") (fmc (by walk_at "mem") (fmc (by walk_at "mem") (fmc (by walk_at "mem") (fmc (by walk_at "mem") (by walk_at "tailmem")))))))))
      clear N'
      walk_at "nm"
      refine c_cons (c_AssignSwap (c_Tuple2 (c_CallName ?_)))
      k_steps
      walk_at "cWith"
      (rename Fr _ _ _ _ => F'); (rename News _ _ _ _ => N')
      refine new_win (C'.mono (by omega) (by omega)) F' hw.1 fun h3 rx rdx rg τr tk3 F3 K3 fr1 fr2 fr3 n12 n13 n23 e1 e2 e3 => ?_
      have lx1 := new_ne N' fr1
      have lx2 := new_ne N' fr2
      have lx3 := new_ne N' fr3
      have N6 : News gr L' h3 ((rx, instObj 159 rdx) :: (rdx, winD w.params τr wd [] rg) :: (rg, baO (ringW wd [])) :: (wx, instObj 356 wdx) :: (wdx, offD w.params τw w1 w2 w3) :: (ox, instObj 356 odx) :: (odx, offD w.params τo x0 x1 x2) :: (L' + 1 + 1, ocw2) :: (a, jarO n' τ' g' o t c' b) :: (R, listOf (as'.map Value.ref).toArray nn') :: (V, LCg.lst ys) :: tl) := News.fresh1 F' fr1 e1 (News.fresh1 F' fr2 e2 (News.fresh1 F' fr3 e3 (Kept.news K3 N' (fun _ h => h) (fun _ _ h => nomatch h))))
      clear F' N'
      refine c_any ?_
      k_steps
      walk_at "nm"
      walk_at "cMeth"
      walk_at "cWith"
      (rename Fr _ _ _ _ => F'); (rename News _ _ _ _ => N')
      refine feed_win (C'.mono (by omega) (by omega)) F' N' (by walk_at "mem") (by walk_at "mem") (by walk_at "mem") hw fun h4 τr2 tk4 F4 K4 e4 e5 => ?_
      replace N' := News.put2 N' K4 (by k_updF) e4 (by k_updF) e5
      try dsimp only at N' ⊢
      clear F'
      have N7 : News gr L' h4 ((rx, instObj 159 rdx) :: (rdx, winD w.params τr2 wd hist rg) :: (rg, baO (ringW wd hist)) :: (wx, instObj 356 wdx) :: (wdx, offD w.params τw w1 w2 w3) :: (ox, instObj 356 odx) :: (odx, offD w.params τo x0 x1 x2) :: (L' + 1 + 1, ocw2) :: (a, jarO n' τ' g' o t c' b) :: (R, listOf (as'.map Value.ref).toArray nn') :: (V, LCg.lst ys) :: tl) := News.sub N' (by walk_at "subs")
      clear N'
      walk_at "nm"
      refine c_cons (c_For ?_)
      k_steps
      (rename Fr _ _ _ _ => F'); (rename News _ _ _ _ => N')
      obtain ⟨J1, J1i, J1e⟩ := exJ (fun (i : Nat) (m' : Str → Option Value) (nx : List (Addr × Obj)) (G : Prop) => ∀ u1 u2 u3 tt τr τo, m' = (fun y => if y = Str.ofString "row" then u1 else if y = Str.ofString "value" then u2 else if y = Str.ofString "distance" then u3 else if y = Str.ofString "told" then some (.bytes (runsT hist ((runsF ps).1.take i)).toArray tt) else if y = Str.ofString "ring" then some (.ref rx) else if y = Str.ofString "values" then some (.ref V) else if y = Str.ofString "last" then some (.bytes (runsF ps).2.toArray tr) else if y = Str.ofString "rows" then some (.ref R) else if y = Str.ofString "reading" then some (.ref ox) else if y = Str.ofString "three" then some (.ref D2) else (fun y => if y = Str.ofString "width" then some (Value.int (wd : Int) twd) else if y = Str.ofString "whole" then some (Value.bytes (ws hist ps).toArray tw) else if y = Str.ofString "steps" then some (Value.ref st) else if y = Str.ofString "history" then some (Value.bytes hist.toArray th) else none) y) → nx = (rx, instObj 159 rdx) :: (rdx, winD w.params τr wd (runsT hist ((runsF ps).1.take i)) rg) :: (rg, baO (ringW wd (runsT hist ((runsF ps).1.take i)))) :: (wx, instObj 356 wdx) :: (wdx, offD w.params τw w1 w2 w3) :: (ox, instObj 356 odx) :: (odx, offD w.params τo (offsF (x0, x1, x2) ((runsF ps).1.take i)).1 (offsF (x0, x1, x2) ((runsF ps).1.take i)).2.1 (offsF (x0, x1, x2) ((runsF ps).1.take i)).2.2) :: (L' + 1 + 1, ocw2) :: (a, jarO n' τ' g' o t c' b) :: (R, listOf (as'.map Value.ref).toArray nn') :: (V, LCg.lst ys) :: tl → G)
      refine c_forZip (l1 := R) (l2 := V) (· = gr) J1 rfl rfl F' N' (lo1 := listOf (as'.map Value.ref).toArray nn') (lo2 := LCg.lst ys) rfl rfl rfl rfl (fun i g₁ m nx h e hJ _ N => J1e _ _ _ _ hJ (by rintro _ _ _ _ _ _ rfl rfl; exact (N (R, listOf (as'.map Value.ref).toArray nn') (by walk_at "mem")).1)) (fun i g₁ m nx h e hJ _ N => J1e _ _ _ _ hJ (by rintro _ _ _ _ _ _ rfl rfl; exact (N (V, LCg.lst ys) (by walk_at "mem")).1)) (J1i _ _ _ fun G k => k none none none th τr2 τo ?mp0 rfl) ?_ ?_
      case mp0 =>
        walk_at "mpU"
      · rintro i T vx vy g₁ m₁ nx h₁ tk₁ z TI TO i1 i2 oz oTI oTO o1 o2 hi hvx hvy hT rfl hJ1 off1 off2 off3 off4 off5 F' N'
        refine c_foldA ?_
        intro q1 hq1
        refine J1e _ _ _ _ hJ1 ?_
        clear hJ1
        rintro u1 u2 u3 tt τr τo rfl rfl
        obtain ⟨b', r, y1, y2, y3, rfl, hr, hmem⟩ := hRows.get hvx
        obtain ⟨v0, tv0, hv0, rfl⟩ := ints_at hIs' hvy
        rw [valsF_get hr] at hv0
        obtain rfl := Option.some.inj hv0
        have hrf := hrfit i r hr
        have hr1 : r.1.length ≤ 10000 := Nat.le_trans (rows_len ps r (List.mem_of_getElem? hr)) (by omega)
        have hrw := runs_ws hist ps
        have hwl := G.len
        have hT1 := runsT_snoc (t := hist) hr
        have hO1 := offsF_snoc (q := (x0, x1, x2)) hr
        have hle1 := runsT_le hist (runsF ps).1 (i + 1)
        have hle0 := runsT_le hist (runsF ps).1 i
        have hlw : (ws hist ps).length = (runsT hist (runsF ps).1).length + (runsF ps).2.length := by rw [hrw, List.length_append]
        have N8 : News g₁ L' h₁ ((b', rowT y1 y2 y3 r) :: (z, oz) :: (TI, oTI) :: (TO, oTO) :: (i1, o1) :: (i2, o2) :: (rx, instObj 159 rdx) :: (rdx, winD w.params τr wd (runsT hist ((runsF ps).1.take i)) rg) :: (rg, baO (ringW wd (runsT hist ((runsF ps).1.take i)))) :: (wx, instObj 356 wdx) :: (wdx, offD w.params τw w1 w2 w3) :: (ox, instObj 356 odx) :: (odx, offD w.params τo (offsF (x0, x1, x2) ((runsF ps).1.take i)).1 (offsF (x0, x1, x2) ((runsF ps).1.take i)).2.1 (offsF (x0, x1, x2) ((runsF ps).1.take i)).2.2) :: (L' + 1 + 1, ocw2) :: (a, jarO n' τ' g' o t c' b) :: (R, listOf (as'.map Value.ref).toArray nn') :: (V, LCg.lst ys) :: tl) := fun p hp => by
          rcases List.mem_cons.mp hp with rfl | hp
          · exact N' _ (by revert hmem; generalize (b', rowT y1 y2 y3 r) = p; revert p; walk_at "tailmem")
          · exact N' p hp
        clear N'
        have hvr0 := valueO_range (a := (offsF (x0, x1, x2) ((runsF ps).1.take i)).1) (b := (offsF (x0, x1, x2) ((runsF ps).1.take i)).2.1) (c := (offsF (x0, x1, x2) ((runsF ps).1.take i)).2.2) (d := (r.2.2 : Int)) (lit := (r.1.length : Int)) (by unfold RowFit at hrf; omega)
        have hvr : 1 ≤ valO (offsF (x0, x1, x2) ((runsF ps).1.take i)) r ∧ valO (offsF (x0, x1, x2) ((runsF ps).1.take i)) r ≤ 1000000 := by unfold RowFit at hrf; unfold valO; omega
        have hvt : toldD (offsF (x0, x1, x2) ((runsF ps).1.take i)).1 (offsF (x0, x1, x2) ((runsF ps).1.take i)).2.1 (offsF (x0, x1, x2) ((runsF ps).1.take i)).2.2 (valO (offsF (x0, x1, x2) ((runsF ps).1.take i)) r) (r.1.length : Int) = (r.2.2 : Int) := valueO_told (by unfold RowFit at hrf; omega)
        have hdne : toldD (offsF (x0, x1, x2) ((runsF ps).1.take i)).1 (offsF (x0, x1, x2) ((runsF ps).1.take i)).2.1 (offsF (x0, x1, x2) ((runsF ps).1.take i)).2.2 (valO (offsF (x0, x1, x2) ((runsF ps).1.take i)) r) (r.1.length : Int) ≠ 0 := by rw [hvt]; unfold RowFit at hrf; omega
        clear hvr0
        have hll : (runsT hist ((runsF ps).1.take i) ++ r.1).length ≤ 20000 := by rw [List.length_append]; omega
        k_steps
        walk_at "nm"
        walk_at "cMeth"
        walk_at "cWith"
        (rename Fr _ _ _ _ => F'); (rename News _ _ _ _ => N')
        refine feed_win (C'.mono (by omega) (by omega)) F' N' (by walk_at "mem") (by walk_at "mem") (by walk_at "mem") hw fun h4 τr2 tk4 F4 K4 e4 e5 => ?_
        replace N' := News.put2 N' K4 (by k_updF) e4 (by k_updF) e5
        try dsimp only at N' ⊢
        clear F'
        walk_at "nm"
        walk_at "cStmt"
        rw [hvt] at ed'
        subst ed'
        have eO : r' = offsF (x0, x1, x2) ((runsF ps).1.take (i + 1)) := er'.trans hO1.symm
        subst eO
        walk_at "nm"
        refine c_cons (c_AssignName (c_BinOp ?_))
        k_steps
        refine c_CallAttr ?_
        k_steps
        walk_at "cWith"
        (rename Fr _ _ _ _ => F'); (rename News _ _ _ _ => N')
        have hcl := lz_length (runsT hist ((runsF ps).1.take i) ++ r.1) r.2.2 r.2.1
        have hsp := lz_split (runsT hist ((runsF ps).1.take i) ++ r.1) r.2.2 r.2.1
        have htR : lz (runsT hist ((runsF ps).1.take i) ++ r.1) r.2.2 r.2.1 = runsT hist ((runsF ps).1.take (i + 1)) := hT1.symm
        have hdl : ((lz (runsT hist ((runsF ps).1.take i) ++ r.1) r.2.2 r.2.1).drop (runsT hist ((runsF ps).1.take i) ++ r.1).length).length ≤ 9 := by rw [List.length_drop]; unfold RowFit at hrf; omega
        refine copy_win (C'.mono (by omega) (by omega)) F' N' (by walk_at "mem") (by walk_at "mem") (by walk_at "mem") hw (by unfold RowFit at hrf; omega) (by unfold RowFit at hrf; omega) fun h5 τr3 tt5 tk5 F5 K5 e6 e7 => ?_
        replace N' := News.put2 N' K5 (by k_updF) e6 (by k_updF) e7
        try dsimp only at N' ⊢
        clear F'
        k_steps
        refine c_nil ?_
        (rename Fr _ _ _ _ => F'); (rename News _ _ _ _ => N')
        rw [hsp, htR] at F'
        rw [htR] at N'
        refine' hq1 _ _ (LoopPostX.next5 ((rx, instObj 159 rdx) :: (rdx, winD w.params τr3 wd (runsT hist ((runsF ps).1.take (i + 1))) rg) :: (rg, baO (ringW wd (runsT hist ((runsF ps).1.take (i + 1))))) :: (wx, instObj 356 wdx) :: (wdx, offD w.params τw w1 w2 w3) :: (ox, instObj 356 odx) :: (odx, offD w.params τ9 (offsF (x0, x1, x2) ((runsF ps).1.take (i + 1))).1 (offsF (x0, x1, x2) ((runsF ps).1.take (i + 1))).2.1 (offsF (x0, x1, x2) ((runsF ps).1.take (i + 1))).2.2) :: (L' + 1 + 1, ocw2) :: (a, jarO n' τ' g' o t c' b) :: (R, listOf (as'.map Value.ref).toArray nn') :: (V, LCg.lst ys) :: tl) (nx := (rx, instObj 159 rdx) :: (rdx, winD w.params τr wd (runsT hist ((runsF ps).1.take i)) rg) :: (rg, baO (ringW wd (runsT hist ((runsF ps).1.take i)))) :: (wx, instObj 356 wdx) :: (wdx, offD w.params τw w1 w2 w3) :: (ox, instObj 356 odx) :: (odx, offD w.params τo (offsF (x0, x1, x2) ((runsF ps).1.take i)).1 (offsF (x0, x1, x2) ((runsF ps).1.take i)).2.1 (offsF (x0, x1, x2) ((runsF ps).1.take i)).2.2) :: (L' + 1 + 1, ocw2) :: (a, jarO n' τ' g' o t c' b) :: (R, listOf (as'.map Value.ref).toArray nn') :: (V, LCg.lst ys) :: tl) rfl F' N' (by walk_at "subs") off1 off2 off3 off4 off5 rfl (J1i _ _ _ fun G k => k (some (.ref b')) (some (.int (valO (offsF (x0, x1, x2) ((runsF ps).1.take i)) r) tv0)) (some (.int (r.2.2 : Int) td')) _ τr3 τ9 ?mpL rfl))
        case mpL =>
          walk_at "mpU"
      · (rename Fr _ _ _ _ => F8); (rename News _ _ _ _ => N8); clear F8 N8
        rintro g₁ m₁ nx h₁ tk₁ rfl hJ1 F' N'
        refine J1e _ _ _ _ hJ1 ?_
        clear hJ1
        rintro u1 u2 u3 tt τr τo rfl rfl
        have hvl := hIs'.length
        rw [valsF_length] at hvl
        rw [show min (as'.map Value.ref).length ys.length = (runsF ps).1.length from by rw [List.length_map]; omega, List.take_length, hw123] at N' 
        rw [show min (as'.map Value.ref).length ys.length = (runsF ps).1.length from by rw [List.length_map]; omega, List.take_length] at F'
        have hrw := runs_ws hist ps
        have hwl := G.len
        have hlw : (ws hist ps).length = (runsT hist (runsF ps).1).length + (runsF ps).2.length := by rw [hrw, List.length_append]
        try dsimp only at N'
        have hreq : runsT hist (runsF ps).1 ++ (runsF ps).2 = ws hist ps := hrw.symm
        walk_at "nm"
        refine c_consA ?_
        k_steps
        (rename Fr _ _ _ _ => F'); (rename News _ _ _ _ => N')
        exact hq0 _ _ (BackW.fin (mods := [a]) F' N N' hg' (by walk_at "modsub") fun F K => ⟨_, rfl, ret _ n' τ' g' c' _ hgr' ⟨hc'.1, by have := hc'.2; push_cast at this; omega⟩ F K (N'.get (a := a) (by walk_at "mem"))⟩)
end

/-! text T3 -/
/-- a ground that has turned from the one where C stands -/
def GdT {w : World} {A A₀ : Around} {L : Addr} {g base : Heap} {env : Env} {outer : List Env} {mean : ExcName → Option Value} {mg mb : Str → Option Value} {loose : List Str} {k u : Nat} (_C : Cx w A A₀ L g base env outer mean mg mb loose k u) (g₁ : Heap) : Prop :=
  KtsTurn (fsOf outer) g g₁ ∧ Cx w A A₀ L g₁ base env outer mean mg mb loose k u ∧ Gx w base g₁ outer mean mg mb loose
theorem kts_seq {fs : List Addr} {g g₁ : Heap} {b : Addr} {o : Obj} {x : Array Value} {n : Nat} (D : KtsDicts fs g) (T : KtsTurn fs g g₁) (e : g.get? b = some o) (hd : o.data = .seq x n) : g₁.get? b = some o := T.other b o e fun hm => by
  obtain ⟨o', es, n', e', hd'⟩ := D b hm
  rw [e] at e'
  cases e'
  rw [hd] at hd'; cases hd'
theorem pairs_turn {fs : List Addr} {g g₁ : Heap} (D : KtsDicts fs g) (T : KtsTurn fs g g₁) : ∀ {as : List Addr} {ps : List (Nat × Nat)}, PairsAt g as ps → PairsAt g₁ as ps
  | [], [], _ => trivial
  | _ :: _, _ :: _, ⟨⟨t, u, o, ho, hc, n, hd⟩, r⟩ => ⟨⟨t, u, o, kts_seq D T ho hd, hc, n, hd⟩, pairs_turn D T r⟩
theorem tellW_pre (t : List UInt8) (p : Nat × Nat) : (tellW t p).take t.length = t := by
  unfold tellW
  split
  · rw [List.take_append_of_le_length (Nat.le_refl _), List.take_length]
  · rw [← lz_split, List.take_append_of_le_length (Nat.le_refl _), List.take_length]
theorem ws_pre (ps : List (Nat × Nat)) : ∀ t, (ws t ps).take t.length = t := by
  induction ps with
  | nil => intro t; exact List.take_length
  | cons p ps ih =>
    intro t
    have h1 := ih (tellW t p)
    have h2 := tellW_pre t p
    have h3 := tellW_length t p
    show (ws (tellW t p) ps).take t.length = t
    have e : (ws (tellW t p) ps).take t.length = ((ws (tellW t p) ps).take (tellW t p).length).take t.length := by
      rw [List.take_take, Nat.min_eq_left h3]
    rw [e, h1, h2]
theorem ws_at (t : List UInt8) (ps : List (Nat × Nat)) (i : Nat) : ws t (ps.take i) = (ws t ps).take (ws t (ps.take i)).length := by
  have h := ws_pre (ps.drop i) (ws t (ps.take i))
  rw [← ws_append, List.take_append_drop] at h
  exact h.symm
theorem ln_T3_1 : True := by
  k_with "compareOp NotEq bytes bytes" => (k_here; rw [hcut]; (with_reducible refine neB_same ?_); (try dsimp only))
  trivial
section
variable {w : World} {A A₀ : Around} {s : Shared} {L : Addr} {h₀ base : Heap} {m mg mb : Str → Option Value} {loose : List Str} {mean : ExcName → Option Value} {env : Env} {outer : List Env} {Q : Value → Shared → Prop} {E : Value → Shared → Prop} {st en : Addr} {as : List Addr} {vs : List Value} {ps : List (Nat × Nat)} {hist : List UInt8} {th tw twd : Tok} {wd : Nat}
theorem ring_ok (C : Cx w A A₀ L h₀ base env outer mean mg mb loose 65 280) (G : Gx w base h₀ outer mean mg mb loose) (F : Fr h₀ L s.heap m)
    (S : StepsAt s.heap st as ps) (hE : ∃ o nn, s.heap.get? en = some o ∧ o.cls = .type "list" ∧ o.data = .seq vs.toArray nn) (hIs : IntsAre vs (endsF hist ps ps.length)) (Gd : Good hist ps) (hh1 : 1 ≤ hist.length) (hw : 1 ≤ wd ∧ wd ≤ 100000)
    (ret : ∀ h₀' h' tk, KtsTurn (fsOf outer) h₀ h₀' → (∀ {k u}, Cx w A A₀ L h₀ base env outer mean mg mb loose k u → Cx w A A₀ L h₀' base env outer mean mg mb loose k u) → Gx w base h₀' outer mean mg mb loose → Fr h₀' L h' m → KeptT L outer s.heap h' [] → Q (.bool true) { s with heap := h', toks := tk }) :
    wpC (model PySem.Challenge.rw_tg0040_01.row.prog w) A (call (.ref 424) [.bytes hist.toArray th, .ref st, .bytes (ws hist ps).toArray tw, .ref en, .int (wd : Int) twd]) Q s := by
  have N : News h₀ L s.heap [] := News.nil
  have hC := C
  have hG := G
  walk_at "startT"
  refine c_call ?_
  k_dflt walk_at "enterT"
  refine c_fold ?_
  intro q0 hq0
  obtain ⟨⟨ol, nn, hol0, hlc, hld⟩, hP⟩ := S
  obtain ⟨oe, ne, hen0, hec, hed⟩ := hE
  have hol : g'.get? st = some ol := hg' _ _ hol0 List.not_mem_nil
  have hen : g'.get? en = some oe := hg' _ _ hen0 List.not_mem_nil
  have hps : PairsAt g' as ps := hP.keeps fun b o e _ => hg' b o e List.not_mem_nil
  have hps' : ∀ g₁, KtsTurn (fsOf (env :: outer)) g' g₁ → PairsAt g₁ as ps := fun g₁ T₁ => pairs_turn D' T₁ hps
  have hcnt := Gd.cnt
  have hwl := Gd.len
  have hwl2 := ws_length ps hist
  replace F' : Fr g' L' _ (mp [(Str.ofString "width", .int (wd : Int) twd), (Str.ofString "ends", .ref en), (Str.ofString "whole", .bytes (ws hist ps).toArray tw), (Str.ofString "steps", .ref st), (Str.ofString "history", .bytes hist.toArray th)]) := F'
  walk_at "nm"
  refine c_cons (c_AssignSwap (c_Tuple2 (c_CallName ?_)))
  k_steps
  walk_at "cWith"
  (rename Fr _ _ _ _ => F'); (rename News _ _ _ _ => N')
  refine new_win (C'.mono (by omega) (by omega)) F' hw.1 fun h3 x dx rg τr tk3 F3 K3 fr1 fr2 fr3 n12 n13 n23 e1 e2 e3 => ?_
  have N6 : News g' L' h3 [(x, instObj 159 dx), (dx, winD w.params τr wd [] rg), (rg, baO (ringW wd []))] := News.fresh1 F' fr1 e1 (News.fresh1 F' fr2 e2 (News.fresh1 F' fr3 e3 News.nil))
  clear F' N'
  refine c_any ?_
  k_steps
  walk_at "nm"
  walk_at "cMeth"
  walk_at "cWith"
  (rename Fr _ _ _ _ => F'); (rename News _ _ _ _ => N')
  refine feed_win (C'.mono (by omega) (by omega)) F' N' (by walk_at "mem") (by walk_at "mem") (by walk_at "mem") hw fun h4 τr2 tk4 F4 K4 e4 e5 => ?_
  replace N' := News.put2 N' K4 (by k_updF) e4 (by k_updF) e5
  try dsimp only at N' ⊢
  clear F'
  refine ((fun G k => k _ F4 (News.sub N' (by walk_at "subs"))) : ∀ G : Prop, (∀ tb0, Fr g' L' h4 (fun y => if y = Str.ofString "ring" then some (.ref x) else if y = Str.ofString "begin" then some (.int ((ws hist (ps.take 0)).length : Int) tb0) else mp [(Str.ofString "width", .int (wd : Int) twd), (Str.ofString "ends", .ref en), (Str.ofString "whole", .bytes (ws hist ps).toArray tw), (Str.ofString "steps", .ref st), (Str.ofString "history", .bytes hist.toArray th)] y) → News g' L' h4 [(x, instObj 159 dx), (dx, winD w.params τr2 wd (ws hist (ps.take 0)) rg), (rg, baO (ringW wd (ws hist (ps.take 0))))] → G) → G) _ ?_
  intro tb0 F' N'
  clear F4
  walk_at "nm"
  refine c_cons (c_For ?_)
  k_steps
  (rename Fr _ _ _ _ => F'); (rename News _ _ _ _ => N')
  have hmin : min (as.map Value.ref).length vs.length = ps.length := by
    have h1 := hps.length
    have h2 := hIs.length
    rw [List.length_map, h1, h2]; unfold endsF; simp
  have C0 := C'
  obtain ⟨J1, J1i, J1e⟩ := exJ (fun (i : Nat) (m' : Str → Option Value) (nx : List (Addr × Obj)) (G : Prop) => ∀ u1 u2 u3 tb τ, m' = (fun y => if y = Str.ofString "step" then u1 else if y = Str.ofString "end" then u2 else if y = Str.ofString "told" then u3 else if y = Str.ofString "begin" then some (.int ((ws hist (ps.take i)).length : Int) tb) else if y = Str.ofString "ring" then some (.ref x) else mp [(Str.ofString "width", .int (wd : Int) twd), (Str.ofString "ends", .ref en), (Str.ofString "whole", .bytes (ws hist ps).toArray tw), (Str.ofString "steps", .ref st), (Str.ofString "history", .bytes hist.toArray th)] y) → nx = [(x, instObj 159 dx), (dx, winD w.params τ wd (ws hist (ps.take i)) rg), (rg, baO (ringW wd (ws hist (ps.take i))))] → G)
  refine c_forZip (l1 := st) (l2 := en) (GdT C0) J1 rfl ⟨KtsTurn.refl, C', XB, TB, D'⟩ F' N' hlc hld hec hed (fun i g₁ m nx h ⟨T₁, _, _⟩ _ F _ => F.keep _ _ (kts_seq D' T₁ hol hld)) (fun i g₁ m nx h ⟨T₁, _, _⟩ _ F _ => F.keep _ _ (kts_seq D' T₁ hen hed)) (J1i _ _ _ fun G k => k none none none tb0 τr2 ?mp0 rfl) ?_ ?_
  case mp0 =>
    walk_at "mpU"
  all_goals (clear C' X' T' B' F' N')
  · intro i T vx vy g₁ m₁ nx h₁ tk₁ z TI TO i1 i2 oz oTI oTO o1 o2 hi hvx hvy hT hZ1 hJ1 off1 off2 off3 off4 off5 F' N'
    obtain ⟨T₁, C', G'⟩ := hZ1
    refine c_foldA ?_
    intro q1 hq1
    refine J1e _ _ _ _ hJ1 ?_
    clear hJ1
    rintro u1 u2 u3 tb τ rfl rfl
    have T' := C'.T
    have B' := C'.B
    have X' := C'.X
    revert X'; k_fill; intro X'
    obtain ⟨b, p, t1, t2, rfl, hp, hTb⟩ := (hps' g₁ T₁).get hvx
    obtain ⟨e0, te, he0, rfl⟩ := ints_at hIs hvy
    have hip : i < ps.length := by omega
    obtain rfl : e0 = ((ws hist (ps.take (i + 1))).length : Int) := by
      unfold endsF at he0
      rw [List.getElem?_map, List.getElem?_range hip] at he0
      exact (Option.some.inj he0).symm
    have hfit := Gd.fit _ _ hp
    have hws := ws_snoc (t := hist) hp
    have htl := Gd.take i
    have htl2 := Gd.take (i + 1)
    have hh2 := ws_length (ps.take i) hist
    have htw := tellW_len (ws hist (ps.take i)) p
    rw [← hws] at htw
    have hat := ws_at hist ps (i + 1)
    have hat0 := ws_at hist ps i
    have hall : (ws hist (ps.take (i + 1))).length ≤ (ws hist ps).length := by
      have := ws_length (ps.drop (i + 1)) (ws hist (ps.take (i + 1)))
      rwa [← ws_append, List.take_append_drop] at this
    have hcut : cutB (ws hist ps) (some ((ws hist (ps.take i)).length : Int)) (some ((ws hist (ps.take (i + 1))).length : Int)) = (ws hist (ps.take (i + 1))).drop (ws hist (ps.take i)).length := by
      rw [cutB_both, ← hat]
    have hfd : ws hist (ps.take i) ++ (ws hist (ps.take (i + 1))).drop (ws hist (ps.take i)).length = ws hist (ps.take (i + 1)) := by
      have h1 := tellW_pre (ws hist (ps.take i)) p
      rw [← hws] at h1
      have h2 := List.take_append_drop (ws hist (ps.take i)).length (ws hist (ps.take (i + 1)))
      rwa [h1] at h2
    k_steps
    (rename Fr _ _ _ _ => F'); (rename News _ _ _ _ => N')
    obtain ⟨P, Pi, Pe⟩ := exP (fun (f : Flow) (s' : Shared) (G : Prop) => ∀ (g₂ h' : Heap) (tk : Nat) (τ' : WT) (u3 : Option Value), f = .next → s' = { s with heap := h', toks := tk } → (GdT C0) g₂ → Fr g₂ L' h' (fun y => if y = Str.ofString "step" then some (.ref b) else if y = Str.ofString "end" then some (.int ((ws hist (ps.take (i + 1))).length : Int) te) else if y = Str.ofString "told" then u3 else if y = Str.ofString "begin" then some (.int ((ws hist (ps.take i)).length : Int) tb) else if y = Str.ofString "ring" then some (.ref x) else mp [(Str.ofString "width", .int (wd : Int) twd), (Str.ofString "ends", .ref en), (Str.ofString "whole", .bytes (ws hist ps).toArray tw), (Str.ofString "steps", .ref st), (Str.ofString "history", .bytes hist.toArray th)] y) → News g₂ L' h' ((z, oz) :: (TI, oTI) :: (TO, oTO) :: (i1, o1) :: (i2, o2) :: [(x, instObj 159 dx), (dx, winD w.params τ' wd (ws hist (ps.take (i + 1))) rg), (rg, baO (ringW wd (ws hist (ps.take (i + 1)))))]) → G)
    walk_at "nm"
    refine c_cons (c_mono (Q := P) ?_ ?_)
    · rcases hfit with ⟨hk1, hk2⟩ | ⟨hk1, hk2, hk3, hk4⟩
      · refine c_If ?_
        k_steps
        walk_at "nm"
        walk_at "cMeth"
        walk_at "cWith"
        walk_at "cPut"
        refine c_nil ?_
        (rename Fr _ _ _ _ => F'); (rename News _ _ _ _ => N')
        rw [show (p.2 : Int).toNat.toUInt8 = p.2.toUInt8 from rfl, ← tellW_lit hk1, ← hws] at N'
        refine Pi _ _ fun G k => k g₁ _ _ τ' u3 rfl rfl ⟨T₁, C', G'⟩ ?_ (News.sub N' (by walk_at "subs"))
        refine Eq.mp (congrArg (Fr g₁ L' _) ?_) F'
        walk_at "mpU"
      · by_cases hdw : p.2 ≤ wd
        · refine c_If ?_
          k_steps
          walk_at "nm"
          refine c_cons (c_AssignName (c_CallName ?_))
          k_steps
          walk_at "cWith"
          (rename Fr _ _ _ _ => F'); (rename News _ _ _ _ => N')
          refine copied_ok (C'.mono (by omega) (by omega)) F' N' (by walk_at "mem") (by walk_at "mem") (by walk_at "mem") hw ⟨hk3, hk4, hdw⟩ (by omega) fun h5 τ5 tt5 tk5 F5 K5 e6 e7 => ?_
          replace N' := News.put2 N' K5 (by k_updF) e6 (by k_updF) e7
          try dsimp only at N' ⊢
          clear F'
          have hlzw : lz (ws hist (ps.take i)) p.2 p.1 = ws hist (ps.take (i + 1)) := by rw [hws, tellW_mat (by omega)]
          rw [hlzw] at N' ⊢
          k_steps
          walk_at "nm"
          walk_at "cStmt"
          walk_at "nm"
          walk_at "cStmt"
          refine c_nil ?_
          (rename Fr _ _ _ _ => F'); (rename News _ _ _ _ => N')
          refine Pi _ _ fun G k => k g₁ _ _ τ5 (some (.bytes ((ws hist (ps.take (i + 1))).drop (ws hist (ps.take i)).length).toArray tt5)) rfl rfl ⟨T₁, C', G'⟩ ?_ (News.sub N' (by walk_at "subs"))
          refine Eq.mp (congrArg (Fr g₁ L' _) ?_) F'
          walk_at "mpU"
        · refine c_If ?_
          k_steps
          walk_at "nm"
          refine c_cons (c_AssignName (c_CallName ?_))
          k_steps
          walk_at "cWith"
          (rename Fr _ _ _ _ => F'); (rename News _ _ _ _ => N')
          refine copied_bad (C'.mono (by omega) (by omega)) G' F' N' (by walk_at "mem") (by walk_at "mem") (by walk_at "mem") hw ⟨by omega, by omega⟩ fun g₂ h₂ tk₂ T₂ C₂ G₂ F₂ K₂ => ?_
          have N9 : News g₂ L' h₂ ((z, oz) :: (TI, oTI) :: (TO, oTO) :: (i1, o1) :: (i2, o2) :: [(x, instObj 159 dx), (dx, winD w.params τ wd (ws hist (ps.take i)) rg), (rg, baO (ringW wd (ws hist (ps.take i))))]) := News.turn C'.B N' K₂ T₂ (by walk_at "subs") (fun _ _ => List.not_mem_nil)
          replace C' := C₂ C'
          have T₁₂ := T₁.trans T₂
          have hTb2 : IsTup g₂ b #[.int (p.1 : Int) t1, .int (p.2 : Int) t2] := by
            obtain ⟨ob, hob, hobc, nb, hobd⟩ := hTb
            exact ⟨ob, kts_seq (D'.turn T₁) T₂ hob hobd, hobc, nb, hobd⟩
          clear T' B' X' F' N' G' hTb C₂ K₂
          have T' := C'.T
          have B' := C'.B
          have X' := C'.X
          revert X'; k_fill; intro X'
          k_steps
          walk_at "nm"
          walk_at "cStmt"
          walk_at "nm"
          refine c_cons (c_If ?_)
          k_steps
          walk_at "nm"
          refine c_cons (c_IfC (c_isNot (c_isCall (c_CallName ?_))))
          k_steps
          walk_at "cWith"
          (rename Fr _ _ _ _ => F'); (rename News _ _ _ _ => N')
          refine held_ok (C'.mono (by omega) (by omega)) G₂ F' N' (by walk_at "mem") (by walk_at "mem") (by walk_at "mem") hw hat0 ⟨by omega, by omega⟩ (by omega) fun g₃ h₃ tk₃ T₃ C₃ G₃ F₃ K₃ => ⟨true, rfl, ?_⟩
          have N9 : News g₃ L' h₃ ((z, oz) :: (TI, oTI) :: (TO, oTO) :: (i1, o1) :: (i2, o2) :: [(x, instObj 159 dx), (dx, winD w.params τ wd (ws hist (ps.take i)) rg), (rg, baO (ringW wd (ws hist (ps.take i))))]) := News.turn C'.B N' K₃ T₃ (by walk_at "subs") (fun _ _ => List.not_mem_nil)
          replace C' := C₃ C'
          clear F' N' C₃ K₃
          
          have T₁₃ := T₁₂.trans T₃
          clear T' B' X'
          have T' := C'.T
          have B' := C'.B
          have X' := C'.X
          revert X'; k_fill; intro X'
          try dsimp only [Bool.not_true]
          refine Eq.mpr (if_neg Bool.false_ne_true) ?_
          refine c_nil ?_
          try dsimp only
          walk_at "nm"
          walk_at "cMeth"
          walk_at "cWith"
          (rename Fr _ _ _ _ => F'); (rename News _ _ _ _ => N')
          rw [hcut]
          refine feed_win (C'.mono (by omega) (by omega)) F' N' (by walk_at "mem") (by walk_at "mem") (by walk_at "mem") hw fun h6 τ6 tk6 F6 K6 e6 e7 => ?_
          replace N' := News.put2 N' K6 (by k_updF) e6 (by k_updF) e7
          try dsimp only at N' ⊢
          clear F'
          rw [hfd] at N'
          refine c_nil ?_
          try dsimp only
          refine c_nil ?_
          refine Pi _ _ fun G k => k g₃ _ _ τ6 (some .none) rfl rfl ⟨T₁₃, C', G₃⟩ ?_ (News.sub N' (by walk_at "subs"))
          refine Eq.mp (congrArg (Fr g₃ L' _) ?_) F6
          walk_at "mpU"
    · intro f s' hPf
      refine Pe _ _ _ hPf ?_
      rintro g₂ h' tk τ' u3 rfl rfl ⟨T₂, C₂, G₂⟩ F₂ N₂
      clear Pi Pe hPf C' G' T' B' X' F' N'
      have C' := C₂
      clear C₂
      have T' := C'.T
      have B' := C'.B
      have X' := C'.X
      revert X'; k_fill; intro X'
      try dsimp only
      walk_at "nm"
      refine c_cons (c_IfC (c_isNot (c_isCall (c_CallName ?_))))
      k_steps
      walk_at "cWith"
      (rename Fr _ _ _ _ => F'); (rename News _ _ _ _ => N')
      refine held_ok (C'.mono (by omega) (by omega)) G₂ F' N' (by walk_at "mem") (by walk_at "mem") (by walk_at "mem") hw hat ⟨by omega, by omega⟩ (by omega) fun g₃ h₃ tk₃ T₃ C₃ G₃ F₃ K₃ => ⟨true, rfl, ?_⟩
      have N9 : News g₃ L' h₃ ((z, oz) :: (TI, oTI) :: (TO, oTO) :: (i1, o1) :: (i2, o2) :: [(x, instObj 159 dx), (dx, winD w.params τ' wd (ws hist (ps.take (i + 1))) rg), (rg, baO (ringW wd (ws hist (ps.take (i + 1)))))]) := News.turn C'.B N' K₃ T₃ (by walk_at "subs") (fun _ _ => List.not_mem_nil)
      replace C' := C₃ C'
      clear F' N' C₃ K₃
      
      have T₂₃ := T₂.trans T₃
      clear T' B' X'
      have T' := C'.T
      have B' := C'.B
      have X' := C'.X
      revert X'; k_fill; intro X'
      try dsimp only [Bool.not_true]
      refine Eq.mpr (if_neg Bool.false_ne_true) ?_
      refine c_nil ?_
      try dsimp only
      walk_at "nm"
      walk_at "cStmt"
      try dsimp only
      refine c_nil ?_
      (rename Fr _ _ _ _ => F'); (rename News _ _ _ _ => N')
      refine' hq1 _ _ (LoopPostX.next5 [(x, instObj 159 dx), (dx, winD w.params τ' wd (ws hist (ps.take (i + 1))) rg), (rg, baO (ringW wd (ws hist (ps.take (i + 1)))))] (nx := [(x, instObj 159 dx), (dx, winD w.params τ wd (ws hist (ps.take i)) rg), (rg, baO (ringW wd (ws hist (ps.take i))))]) ⟨T₂₃, C', G₃⟩ F' N' (by walk_at "subs") off1 off2 off3 off4 off5 rfl (J1i _ _ _ fun G k => k (some (.ref b)) (some (.int ((ws hist (ps.take (i + 1))).length : Int) te)) u3 te τ' ?mpE rfl))
      case mpE =>
        walk_at "mpU"
  · intro g₁ m₁ nx h₁ tk₁ hZ1 hJ1 F' N'
    obtain ⟨T₁, C', G'⟩ := hZ1
    refine J1e _ _ _ _ hJ1 ?_
    clear hJ1
    rintro u1 u2 u3 tb τ rfl rfl
    have T' := C'.T
    have B' := C'.B
    have X' := C'.X
    revert X'; k_fill; intro X'
    walk_at "nm"
    walk_at "cStmt"
    (rename Fr _ _ _ _ => F'); (rename News _ _ _ _ => N')
    exact hq0 _ _ (BackT.fin (mods := []) hC hG N hg' T₁ F' N' (by walk_at "modsub") fun h₀' T₀ C₀ G₀ F₀ K₀ => ⟨_, rfl, ret _ _ _ T₀ C₀ G₀ F₀ K₀⟩)
end

/-! text T4 -/
theorem PairsIn.get {tl : List (Addr × Obj)} : ∀ {as : List Addr} {ps : List (Nat × Nat)} {i : Nat} {v : Value}, PairsIn tl as ps → (as.map Value.ref)[i]? = some v → ∃ a p t u, v = .ref a ∧ ps[i]? = some p ∧ (a, tupO2 (p.1 : Int) (p.2 : Int) t u) ∈ tl
  | _ :: _, _ :: _, 0, _, ⟨⟨t, u, x⟩, _⟩, e => by cases e; exact ⟨_, _, t, u, rfl, rfl, x⟩
  | _ :: _, _ :: _, i + 1, _, ⟨_, r⟩, e => PairsIn.get (i := i) r e
theorem ln_T4_1 : True := by
  k_with "call builtin:max" => (k_here; (with_reducible show wpAny _ _ (call (Value.builtin "max") [Value.ref _]) _ _ _); k_dflt ((rename Fr _ _ _ _ => F'); (rename News _ _ _ _ => N'); (refine kso_max F' N' ⟨_, (N' _ (List.Mem.head _)).1, rfl, _, rfl⟩ hIs' hpos (by rfl) ?_); intro h' M' t' k' F' N' hM1 hM2; (try dsimp only)))
  trivial
theorem code_topC {prog : Program} {w : World} {s : Shared} {K : Frag} {mg mb : Str → Option Value} {p : Program} {loose : List Str} {mean : ExcName → Option Value} {R : Flow → Shared → Prop} {name qual : Str} {params : Arguments} {body : List Stmt} {scope : Scope} {dV kV doc pm cdv ct oc : Value} {an od : Option Addr} {osl : Array (Option Value)} {f : Addr} {args : Args} {binds : List (Str × Value)}
    (X : K.In s.heap) (T : Top p loose mean mg mb s.heap) (ho : K.lookup f = some ⟨oc, od, .func (fnOf name qual params body scope dV kV doc pm an cdv ct), osl⟩) (hcd : codeIn K cdv qual = true)
    (hbind : BindsTo s (fnOf name qual params body scope dV kV doc pm an cdv ct) args binds) (hloc : ∀ y ∈ binds, scope.names.lookup y.1 = some .local)
    (h : ∀ L' h₁, Fr s.heap L' h₁ (fun y => binds.reverse.lookup y) → wpC (model prog w) (callerA.deeper (envOf qual scope L' f cdv)) (execs body (envOf qual scope L' f cdv)) (fun fl s' => R (.ret (match fl with | .ret v => v | _ => .none)) s') { s with heap := h₁, toks := s.toks + binds.length })
    (hco : scope.isCoroutine = false) (hgen : scope.isGenerator = false) (hk : scope.kind = .function) (hcell : ∀ x ∈ scope.names, x.2 ≠ .cell) : codeC (model prog w) callerA (.call (.ref f) args) R s :=
  codeC_call_function (fd := fnX name qual params body scope [] dV kV doc pm an cdv ct) (body := body) (binds := binds) (by decide) (X _ _ ho) rfl T.nolimit (codeRec_of X hcd) rfl hbind hcell hloc (fun h₁ hns hk₁ => h _ h₁ ⟨hns, hk₁, Nat.le_refl _⟩) hco hgen hk
theorem cx_top {w : World} {L' : Addr} {g : Heap} {env : Env} {mean : ExcName → Option Value} {mg mb : Str → Option Value} {loose : List Str} (X : (Mine.hd.heap_1 w.params).In g) (T : Top q0 loose mean mg mb g) (hf : env.frame = some L') (hk : env.scope.kind = .function) : Cx w (callerA.deeper env) callerA L' g g env [] mean mg mb loose 100 400 :=
  ⟨below_caller g, X, T, rfl, hf, hk, rfl, by show callerA.depth + 1 + 100 < recursionLimit; decide +kernel, by show callerA.units + 3 + 400 < cLine; decide +kernel⟩
theorem Cx.useTop {w : World} {L' : Addr} {g : Heap} {env : Env} {mean : ExcName → Option Value} {mg mb : Str → Option Value} {loose : List Str} {α : Type} {M : Model} {t : Sem α} {Q : α → Shared → Prop} {s : Shared} (X : (Mine.hd.heap_1 w.params).In g) (T : Top q0 loose mean mg mb g) (hf : env.frame = some L') (hk : env.scope.kind = .function)
    (h : Cx w (callerA.deeper env) callerA L' g g env [] mean mg mb loose 100 400 → wpC M (callerA.deeper env) t Q s) : wpC M (callerA.deeper env) t Q s := h (cx_top X T hf hk)
section
variable {w : World} {s : Shared} {mg mb : Str → Option Value} {loose : List Str} {mean : ExcName → Option Value} {Q : Value → Shared → Prop} {a : Addr} {vs : List Value} {ns : List Int}
theorem law_ok (X : (Mine.hd.heap_1 w.params).In s.heap) (T : Top q0 loose mean mg mb s.heap) (hl : s.heap.IsList a vs.toArray) (hi : IntsAre vs ns) (hn : ns.length ≤ 63)
    (ret : ∀ h' L m tk, Fr s.heap L h' m → Q (.bool true) { s with heap := h', toks := tk }) :
    wpC (model PySem.Challenge.rw_tg0040_01.row.prog w) callerA (call (.ref 429) [.ref a]) Q s := by
  have hT := T
  revert X; k_fill; intro X
  have G0 : Gx w s.heap s.heap [] mean mg mb loose := ⟨X, T, ktsDicts_nil⟩
  refine c_call ?_
  refine' code_topC X T ?k6 ?k7 ?k9 ?kB ?_ ?c2 ?c3 ?c4 ?c5
  case k6 => k_is
  case k7 => k_is
  case k9 => exact BindsTo.of_eq rfl
  case c5 => decide
  case kB => exact locs rfl
  case c2 => exact rfl
  case c3 => exact rfl
  case c4 => exact rfl
  k_whole
  intro L' h' F'
  refine Cx.useTop X T rfl rfl ?_
  intro C'
  replace F' : Fr s.heap L' h' (mp [(Str.ofString "script", .ref a)]) := F'
  have N' : News s.heap L' h' [] := News.nil
  have B' := C'.B
  have hh : callerA.handled = none := rfl
  obtain ⟨ol, hol, hlc, nl, hld⟩ := hl
  (try dsimp only)
  walk_at "nm"
  refine c_cons (c_AssignName (c_CallName ?_))
  k_steps
  walk_at "cWith"
  (rename Fr _ _ _ _ => F'); (rename News _ _ _ _ => N')
  refine jar_ok (C'.mono (by omega) (by omega)) F' ⟨ol, F'.keep _ _ hol, hlc, nl, hld⟩ hi hn fun h2 j n' τ' g o t b tk2 hg ho ht F2 K2 frj ej => ?_
  have N2 : News s.heap L' h2 [(j, jarO n' τ' g o t 0 b)] := News.fresh1 F' frj ej News.nil
  clear F' N'
  try dsimp only
  k_steps
  walk_at "nm"
  refine c_cons (c_AssignTuple (c_CallName ?_))
  k_steps
  walk_at "cWith"
  (rename Fr _ _ _ _ => F'); (rename News _ _ _ _ => N')
  refine steps_ok (C'.mono (by omega) (by omega)) F' N' hg ho ht rfl fun h3 n2 τ2 g2 c2 Ds R as nn hist th ps tl tk3 hg2 hc2 F3 K3 ej2 frD frR hDR eD eR hTl htl hfr hoffD hPs hFi hhl hwl hpl hex => ?_
  have hjD : j ≠ Ds := new_ne N' frD _ (List.Mem.head _)
  have hjR : j ≠ R := new_ne N' frR _ (List.Mem.head _)
  have Na : News s.heap L' h3 [(j, jarO n2 τ2 g2 o t c2 b)] := fun p hp => by
    rw [List.mem_singleton.mp hp]
    exact ⟨ej2, (N' _ (List.Mem.head _)).2⟩
  have Nb : News s.heap L' h3 [(j, jarO n2 τ2 g2 o t c2 b), (R, listOf (as.map Value.ref).toArray nn)] := fun p hp => by
    rcases List.mem_cons.mp hp with rfl | hp
    · exact Na _ (List.Mem.head _)
    · exact News.fresh1 F' frR eR News.nil p hp
  have Nc : News s.heap L' h3 [(Ds, { cls := .type "tuple", data := .seq #[.bytes hist.toArray th, .ref R] }), (j, jarO n2 τ2 g2 o t c2 b), (R, listOf (as.map Value.ref).toArray nn)] := News.fresh1 F' frD eD Nb
  have Nd : News s.heap L' h3 ((Ds, { cls := .type "tuple", data := .seq #[.bytes hist.toArray th, .ref R] }) :: (j, jarO n2 τ2 g2 o t c2 b) :: (R, listOf (as.map Value.ref).toArray nn) :: tl) := News.addTail F' hfr htl Nc
  clear Na Nb Nc F' N'
  have G : Good hist ps := ⟨hFi, by omega, by omega⟩
  have hokp : ∀ p ∈ ps, (p.1 = 0 ∧ p.2 < 256) ∨ (2 ≤ p.1 ∧ p.1 ≤ 9 ∧ 1 ≤ p.2 ∧ p.2 ≤ 100000) := fun p hp => by
    obtain ⟨i, hi⟩ := List.getElem?_of_mem hp
    have h1 := hFi i p hi
    have h2 := G.take i
    unfold StepFit at h1; omega
  k_steps
  walk_at "nm"
  refine c_cons (c_AssignTuple (c_CallName ?_))
  k_steps
  walk_at "cWith"
  (rename Fr _ _ _ _ => F'); (rename News _ _ _ _ => N')
  have S1 : StepsAt _ R as ps := ⟨⟨_, nn, (N' (R, listOf (as.map Value.ref).toArray nn) (by walk_at "mem")).1, rfl, rfl⟩, hPs.at fun p hp => (N' p (by revert p hp; walk_at "tailmem")).1⟩
  refine lwhole_ok (C'.mono (by omega) (by omega)) F' S1 G fun h4 Dw en vs' ne tw tk4 F4 K4 frDw frE hDE eDw eE hIs => ?_
  have ljE := new_ne N' frE
  have ljD := new_ne N' frDw
  have Na : News s.heap L' h4 ((j, jarO n2 τ2 g2 o t c2 b) :: (R, listOf (as.map Value.ref).toArray nn) :: tl) := Kept.news K4 N' (by walk_at "subs") (fun _ _ h => nomatch h)
  have Nb : News s.heap L' h4 ((Dw, { cls := .type "tuple", data := .seq #[.bytes (ws hist ps).toArray tw, .ref en] }) :: (en, listOf vs'.toArray ne) :: (j, jarO n2 τ2 g2 o t c2 b) :: (R, listOf (as.map Value.ref).toArray nn) :: tl) := News.fresh1 F' frDw eDw (News.fresh1 F' frE eE Na)
  have hEj : en ≠ j := fun e => ljE (j, jarO n2 τ2 g2 o t c2 b) (by walk_at "mem") e.symm
  have hER : en ≠ R := fun e => ljE (R, listOf (as.map Value.ref).toArray nn) (by walk_at "mem") e.symm
  clear Na F' N' S1
  k_steps
  (rename Fr _ _ _ _ => F'); (rename News _ _ _ _ => N')
  have N5 : News s.heap L' _ ((en, listOf vs'.toArray ne) :: (j, jarO n2 τ2 g2 o t c2 b) :: (R, listOf (as.map Value.ref).toArray nn) :: tl) := News.sub N' (by walk_at "subs")
  clear N'
  have S1 : StepsAt _ R as ps := ⟨⟨_, nn, (N5 (R, listOf (as.map Value.ref).toArray nn) (by walk_at "mem")).1, rfl, rfl⟩, hPs.at fun p hp => (N5 p (by revert p hp; walk_at "tailmem")).1⟩
  have hcut : cutB (ws hist ps) (some (hist.length : Int)) none = (ws hist ps).drop hist.length := cutB_from _ _
  walk_at "nm"
  refine c_cons (c_IfC (c_isOr (c_isCompare (c_CallName ?_))))
  k_steps
  walk_at "cWith"
  (rename Fr _ _ _ _ => F')
  refine unparse_ok (C'.mono (by omega) (by omega)) F' (S1.keeps fun b o e _ => e) G fun h5 tr tk5 F5 K5 => ?_
  have N6 : News s.heap L' h5 ((en, listOf vs'.toArray ne) :: (j, jarO n2 τ2 g2 o t c2 b) :: (R, listOf (as.map Value.ref).toArray nn) :: tl) := Kept.news K5 N5 (fun _ h => h) (fun _ _ h => nomatch h)
  have S2 : StepsAt h5 R as ps := ⟨⟨_, nn, (N6 (R, listOf (as.map Value.ref).toArray nn) (by walk_at "mem")).1, rfl, rfl⟩, hPs.at fun p hp => (N6 p (by revert p hp; walk_at "tailmem")).1⟩
  clear F' N5 S1
  k_steps
  (try dsimp only)
  refine c_isNot (c_isCall (c_CallName ?_))
  k_steps
  walk_at "cWith"
  (rename Fr _ _ _ _ => F'); (rename News _ _ _ _ => N')
  clear S2
  have S3 : StepsAt _ R as ps := ⟨⟨_, nn, (N' (R, listOf (as.map Value.ref).toArray nn) (by walk_at "mem")).1, rfl, rfl⟩, hPs.at fun p hp => (N' p (by revert p hp; walk_at "tailmem")).1⟩
  refine named_ok (C'.mono (by omega) (by omega)) F' (News.sub (rest := [(j, jarO n2 τ2 g2 o t c2 b)]) N' (by walk_at "subs")) hg2 ho ht (by omega) S3 hjR.symm G hokp fun h6 n3 τ3 g3 c3 tk6 hg3 hc3 F6 K6 ej3 => ⟨true, rfl, ?_⟩
  have N7 : News s.heap L' h6 ((en, listOf vs'.toArray ne) :: (j, jarO n3 τ3 g3 o t c3 b) :: (R, listOf (as.map Value.ref).toArray nn) :: tl) := News.put1 N' K6 (by k_updF) ej3
  clear F' N' S3
  try dsimp only [Bool.not_true]
  refine Eq.mpr (if_neg Bool.false_ne_true) ?_
  refine c_nil ?_
  try dsimp only
  walk_at "nm"
  refine c_consA ?_
  iterate 5 (first | walk1 | (dsimp only; walk1))
  (rename Fr _ _ _ _ => F'); (rename News _ _ _ _ => N')
  have hpal := hPs.length
  refine cp_eval (ax := R) (ol := listOf (as.map Value.ref).toArray nn) (vs := as.map Value.ref) (nn := nn) (fun i m₃ => ∃ (p : Nat × Nat) (t1 t2 : Tok), ps[i]? = some p ∧ m₃ (Str.ofString "length") = some (.int (p.1 : Int) t1) ∧ m₃ (Str.ofString "distance") = some (.int (p.2 : Int) t2))
    (fun i ys nx => IntsAre ys (((ps.take i).filter (fun p => 0 < p.1)).map fun p => (p.2 : Int)) ∧ nx = (en, listOf vs'.toArray ne) :: (j, jarO n3 τ3 g3 o t c3 b) :: (R, listOf (as.map Value.ref).toArray nn) :: tl) rfl ?hit rfl rfl (by (rw [List.length_map]; omega)) (fun i ys nx h hJ _ N => by rw [hJ.2] at N; exact (N (R, listOf (as.map Value.ref).toArray nn) (by walk_at "mem")).1) F' N' ⟨.nil, rfl⟩ (by with_unfolding_all rfl) (by decide) rfl (by decide) ?bnd ?trn ?don
  case hit =>
    intro Q' hQ'
    k_steps
    exact hQ'
  case bnd =>
    intro i v ys nx C₉ m₂ s' Q' hv hZ1 hC F₉ N₉ hn hQ'
    obtain ⟨_, rfl⟩ := hZ1
    obtain ⟨a', p, t1, t2, rfl, hp, hmem⟩ := PairsIn.get hPs hv
    have hT9 : IsTup s'.heap a' #[.int (p.1 : Int) t1, .int (p.2 : Int) t2] := ⟨_, (N₉ (a', tupO2 (p.1 : Int) (p.2 : Int) t1 t2) (by revert hmem; generalize (a', tupO2 (p.1 : Int) (p.2 : Int) t1 t2) = q; revert q; walk_at "tailmem")).1, rfl, _, rfl⟩
    exact cp_bind2 rfl hT9 hn rfl rfl rfl fun h' tk hn' hk => hQ' h' tk _ ⟨p, t1, t2, hp, rfl, rfl⟩ hn' hk
  case trn =>
    (rename Fr _ _ _ _ => F8); (rename News _ _ _ _ => N8); clear F8 N8
    intro s₂ hZ1 i ys nx I₉ oI₉ C₉ oC₉ D₉ m₃ h₉ tk₉ hi9 hZ2 hZ3 hnC off₉ n1 n2 n3 F' N'
    obtain ⟨hs2, rfl⟩ := hZ1
    obtain ⟨p, t1, t2, hp, hm1, hm2⟩ := hZ2
    obtain ⟨hIs', rfl⟩ := hZ3
    have htk : (ps.take (i + 1)).filter (fun p => 0 < p.1) = (ps.take i).filter (fun p => 0 < p.1) ++ (if 0 < p.1 then [p] else []) := by
      rw [List.take_add_one, hp, List.filter_append]
      by_cases h0 : 0 < p.1 <;> simp [h0]
    refine wpAny_tests_one ?_
    by_cases h0 : 0 < p.1
    · rw [if_pos h0] at htk
      k_steps
      (rename Fr _ _ _ _ => F'); (rename News _ _ _ _ => N')
      exact CpEnd.intro F' N' _ (fun _ h => h) off₉ ⟨by rw [htk, List.map_append]; exact IntsAre.append hIs' (.cons _ _ .nil), rfl⟩
    · rw [if_neg h0] at htk
      k_steps
      (rename Fr _ _ _ _ => F'); (rename News _ _ _ _ => N')
      exact CpEnd.intro F' N' _ (fun _ h => h) off₉ ⟨by rw [htk, List.append_nil]; exact hIs', rfl⟩
  case don =>
    (rename Fr _ _ _ _ => F8); (rename News _ _ _ _ => N8); clear F8 N8
    intro D₉ ys nx h₉ tk₉ hZ1 F' N' off₉
    obtain ⟨hIs', rfl⟩ := hZ1
    rw [List.length_map, hpal, List.take_length] at hIs'
    have hpos : 0 < ((ps.filter (fun p => 0 < p.1)).map fun p => (p.2 : Int)).length := by
      obtain ⟨p, hp, hp0⟩ := hex
      rw [List.length_map]
      exact List.length_pos_of_mem (List.mem_filter.mpr ⟨hp, by simpa using hp0⟩)
    k_steps
    (rename Fr _ _ _ _ => F'); (rename News _ _ _ _ => N')
    obtain ⟨pf, hpf, hpf2⟩ := List.mem_map.mp hM1
    obtain ⟨hpf3, hpf4⟩ := List.mem_filter.mp hpf
    have hpf5 := hokp pf hpf3
    simp only [decide_eq_true_eq] at hpf4
    obtain ⟨fN, hfN⟩ : ∃ fN : Nat, M' = (fN : Int) := ⟨pf.2, hpf2.symm⟩
    subst hfN
    have hf1 : 1 ≤ fN ∧ fN ≤ 10000 := by
      obtain ⟨i9, hi9⟩ := List.getElem?_of_mem hpf3
      have h1 := hFi i9 pf hi9
      have h2 := G.take i9
      unfold StepFit at h1; omega
    have hfar : ∀ p ∈ ps, 0 < p.1 → p.2 ≤ fN := fun p hp h0 => by
      have := hM2 (p.2 : Int) (List.mem_map.mpr ⟨p, List.mem_filter.mpr ⟨hp, by simpa using h0⟩, rfl⟩)
      omega
    have N8 : News s.heap L' _ ((en, listOf vs'.toArray ne) :: (j, jarO n3 τ3 g3 o t c3 b) :: (R, listOf (as.map Value.ref).toArray nn) :: tl) := News.sub N' (by walk_at "subs")
    clear N' hM1 hM2 hIs' off₉
    walk_at "nm"
    walk_at "cStmt"
    (rename Fr _ _ _ _ => F'); (rename News _ _ _ _ => N')
    refine ((fun G k => k (fN + v'.toNat) _ _ (by omega) (by rw [show ((fN + v'.toNat : Nat) : Int) = (fN : Int) + v' from by omega]; exact F')) : ∀ G : Prop, (∀ (wN : Nat) (twN tfN : Tok), (fN ≤ wN ∧ wN ≤ fN + 6) → Fr s.heap L' _ (fun y => if y = Str.ofString "wide" then some (.int (wN : Int) twN) else if y = Str.ofString "far" then some (.int (fN : Int) tfN) else if y = Str.ofString "ends" then some (.ref en) else if y = Str.ofString "whole" then some (.bytes (ws hist ps).toArray tw) else if y = Str.ofString "steps" then some (.ref R) else if y = Str.ofString "history" then some (.bytes hist.toArray th) else if y = Str.ofString "jar" then some (.ref j) else mp [(Str.ofString "script", .ref a)] y) → G) → G) _ ?_
    intro wN twN tfN hwN F'
    have hgr4 := hgr'
    have hcc4 : 0 ≤ c' ∧ c' ≤ 200 := by omega
    have S4 : StepsAt _ R as ps := ⟨⟨_, nn, (N' (R, listOf (as.map Value.ref).toArray nn) (by walk_at "mem")).1, rfl, rfl⟩, hPs.at fun p hp => (N' p (by revert p hp; walk_at "tailmem")).1⟩
    walk_at "nm"
    refine c_cons (c_IfC (c_isNot (c_isCall (c_CallName ?_))))
    k_steps
    walk_at "cWith"
    clear S4
    (rename Fr _ _ _ _ => F'); (rename News _ _ _ _ => N')
    have S5 : StepsAt _ R as ps := ⟨⟨_, nn, (N' (R, listOf (as.map Value.ref).toArray nn) (by walk_at "mem")).1, rfl, rfl⟩, hPs.at fun p hp => (N' p (by revert p hp; walk_at "tailmem")).1⟩
    refine values_ok (C'.mono (by omega) (by omega)) F' (News.sub (rest := [(j, jarO n' τ' g' o t c' b)]) N' (by walk_at "subs")) hgr4 ho ht (by omega) S5 hjR.symm G hFi (fun p hp h0 => Nat.le_trans (hfar p hp h0) hwN.1) (by omega) fun h8 n5 τ5 g5 c5 tk8 hg5 hc5 F8 K8 ej5 => ⟨true, rfl, ?_⟩
    have N9 : News s.heap L' h8 ((en, listOf vs'.toArray ne) :: (j, jarO n5 τ5 g5 o t c5 b) :: (R, listOf (as.map Value.ref).toArray nn) :: tl) := News.put1 N' K8 (by k_updF) ej5
    clear F' N' S5
    try dsimp only [Bool.not_true]
    refine Eq.mpr (if_neg Bool.false_ne_true) ?_
    refine c_nil ?_
    try dsimp only
    walk_at "nm"
    refine c_cons (c_For ?_)
    k_steps
    (rename Fr _ _ _ _ => F'); (rename News _ _ _ _ => N')
    rename Addr => WL
    obtain ⟨wsL, hwsL, N9⟩ : ∃ wsL : List Value, (∀ v ∈ wsL, ∃ (x : Nat) (q : Tok), v = Value.int (x : Int) q ∧ 1 ≤ x ∧ x ≤ 100000) ∧ News s.heap L' _ ((WL, listOf wsL.toArray 0) :: (en, listOf vs'.toArray ne) :: (j, jarO n' τ' g' o t c' b) :: (R, listOf (as.map Value.ref).toArray nn) :: tl) := by
      refine ⟨[Value.int (wN : Int) twN, Value.int (if (fN : Int) - 1 > 1 then (fN : Int) - 1 else 1) (if (fN : Int) - 1 > 1 then tk8 + 1 + 1 else tk8), Value.int (1 + v') tk'], ?_, N'⟩
      intro v hv
      simp only [List.mem_cons, List.not_mem_nil, or_false] at hv
      rcases hv with rfl | rfl | rfl
      · exact ⟨wN, _, rfl, by omega, by omega⟩
      · refine ⟨(if (fN : Int) - 1 > 1 then (fN : Int) - 1 else 1).toNat, _, by rw [Int.toNat_of_nonneg (by split <;> omega)], ?_, ?_⟩
        · split <;> omega
        · split <;> omega
      · exact ⟨(1 + v').toNat, _, by rw [Int.toNat_of_nonneg (by omega)], by omega, by omega⟩
    have hWj : WL ≠ j := fun e => by
      have h1 := (N9 (WL, listOf wsL.toArray 0) (by walk_at "mem")).1
      have h2 := (N9 (j, jarO n' τ' g' o t c' b) (by walk_at "mem")).1
      exact absurd e (by k_ne)
    clear N'
    have C0 := C'
    obtain ⟨J1, J1i, J1e⟩ := exJ (fun (i : Nat) (m' : Str → Option Value) (nx : List (Addr × Obj)) (G : Prop) => ∀ u, m' = (fun y => if y = Str.ofString "width" then u else if y = Str.ofString "wide" then some (.int (wN : Int) twN) else if y = Str.ofString "far" then some (.int (fN : Int) tfN) else if y = Str.ofString "ends" then some (.ref en) else if y = Str.ofString "whole" then some (.bytes (ws hist ps).toArray tw) else if y = Str.ofString "steps" then some (.ref R) else if y = Str.ofString "history" then some (.bytes hist.toArray th) else if y = Str.ofString "jar" then some (.ref j) else mp [(Str.ofString "script", .ref a)] y) → nx = (WL, listOf wsL.toArray 0) :: (en, listOf vs'.toArray ne) :: (j, jarO n' τ' g' o t c' b) :: (R, listOf (as.map Value.ref).toArray nn) :: tl → G)
    refine c_forListX (l := WL) (GdT C0) J1 rfl ⟨KtsTurn.refl, C', G0.X, G0.T, G0.D⟩ F' N9 (ol := listOf wsL.toArray 0) (vs := wsL) rfl rfl (fun i g₁ m nx h _ hJ _ N => J1e _ _ _ _ hJ (by rintro _ rfl rfl; exact (N (WL, listOf wsL.toArray 0) (by walk_at "mem")).1)) (J1i _ _ _ fun G k => k none ?mp0 rfl) ?_ ?_
    case mp0 =>
      walk_at "mpU"
    all_goals (clear C' X T B' F' N9)
    · intro i v g₁ m₁ nx h₁ tk₁ I oI hi9 hv hZ1 hJ1 off F' N'
      obtain ⟨T₁, C', G'⟩ := hZ1
      refine c_foldA ?_
      intro q1 hq1
      refine J1e _ _ _ _ hJ1 ?_
      clear hJ1
      rintro u rfl rfl
      obtain ⟨wd, qw, rfl, hw1, hw2⟩ := hwsL v (List.mem_of_getElem? hv)
      have T' := C'.T
      have B' := C'.B
      have X' := C'.X
      revert X'; k_fill; intro X'
      k_steps
      walk_at "nm"
      refine c_cons (c_IfC (c_isNot (c_isCall (c_CallName ?_))))
      k_steps
      walk_at "cWith"
      (rename Fr _ _ _ _ => F'); (rename News _ _ _ _ => N')
      have S6 : StepsAt _ R as ps := ⟨⟨_, nn, (N' (R, listOf (as.map Value.ref).toArray nn) (by walk_at "mem")).1, rfl, rfl⟩, hPs.at fun p hp => (N' p (by revert p hp; walk_at "tailmem")).1⟩
      refine ring_ok (C'.mono (by omega) (by omega)) G' F' S6 ⟨_, ne, (N' (en, listOf vs'.toArray ne) (by walk_at "mem")).1, rfl, rfl⟩ hIs G (by omega) ⟨hw1, hw2⟩ fun g₂ h₂ tk₂ T₂ C₂ G₂ F₂ K₂ => ⟨true, rfl, ?_⟩
      have N9 : News g₂ L' h₂ ((I, oI) :: (WL, listOf wsL.toArray 0) :: (en, listOf vs'.toArray ne) :: (j, jarO n' τ' g' o t c' b) :: (R, listOf (as.map Value.ref).toArray nn) :: tl) := News.turn C'.B N' K₂ T₂ (by walk_at "subs") (fun _ _ => List.not_mem_nil)
      replace C' := C₂ C'
      clear F' N' C₂ K₂ T' B' X' S6
      try dsimp only [Bool.not_true]
      refine Eq.mpr (if_neg Bool.false_ne_true) ?_
      refine c_nil ?_
      try dsimp only
      refine c_nil ?_
      refine' hq1 _ _ (LoopPostX.next1 ((WL, listOf wsL.toArray 0) :: (en, listOf vs'.toArray ne) :: (j, jarO n' τ' g' o t c' b) :: (R, listOf (as.map Value.ref).toArray nn) :: tl) ⟨T₁.trans T₂, C', G₂⟩ F₂ N9 (by walk_at "subs") off (J1i _ _ _ fun G k => k (some (.int (wd : Int) qw)) ?mpE rfl))
      case mpE =>
        walk_at "mpU"
    · intro g₁ m₁ nx h₁ tk₁ hZ1 hJ1 F' N'
      obtain ⟨T₁, C', G'⟩ := hZ1
      refine J1e _ _ _ _ hJ1 ?_
      clear hJ1
      rintro u rfl rfl
      have T' := C'.T
      have B' := C'.B
      have X' := C'.X
      revert X'; k_fill; intro X'
      walk_at "nm"
      walk_at "cStmt"
      (rename Fr _ _ _ _ => F'); (rename News _ _ _ _ => N')
      exact ret _ L' _ _ ⟨F'.ns, fun b o e => F'.keep b o (T₁.other b o e (fun h => nomatch h)), by have := F'.above; rw [T₁.size] at this; exact this⟩
end

/-! text T5 -/
theorem final : PySem.Challenge.rw_tg0040_01.Holds := Mine.hd (by
  k_fill
  intro w s₀ s₁ mg mb G Y fa o pm cd doc dV kV ho hdd hcd hD hmg hg args vals as hpre hlay hrd hwl hlo
  have X : (Mine.hd.heap_1 w.params).In s₁.heap := kIn_of Y
  refine Ground.open G ?_
  intro T B D TE TW
  replace hmg : mg (Str.ofString "law") = some (.ref fa) := hmg
  have hfa : mg (Str.ofString "law") = some (.ref 429) := mg_of X T.g (by k_is)
  rw [hmg] at hfa
  obtain rfl : fa = 429 := Value.ref.inj (Option.some.inj hfa)
  clear hdd hcd hD ho hmg hfa B D TE TW
  wrow_args hpre hlay hrd hwl hlo
  rename Heap.IsList _ _ _ => hL
  rename IntsAre _ _ => hI
  rename ¬ ((63 : Int) < _) => hc
  refine law_ok X T hL hI (by omega) fun h' L m tk F => GoodW.toG ?_
  refine goodW_bool F hg (raisesW_false ?_) ?_
  · wrow_none_raised
  · wrow_post)

end Mine
end
end
set_option maxRecDepth 100000 in
set_option maxHeartbeats 8000000 in
theorem PySem.Challenge.cw_tg0040_01_holds : PySem.Challenge.rw_tg0040_01.Holds := by
  exact Mine.final
