import PyProof.Rows.All
import Wide.All
import OpenK.AllK
import Wide.FinOn
import Lean
import PySem.Challenge.RW_on0345_01
open PySem PySem.W PySem.Calls PyProof.Rows PyProof.V PySem.Spec
set_option Elab.async false
set_option maxRecDepth 100000
set_option maxHeartbeats 2000000
namespace Mine
local macro_rules | `(tactic| walk_at $s:str) => `(tactic| k_extra $s)
theorem anew_000 : True := by w_top off; trivial
/-! The model's bytearray asks whether any code on the stack holds it. wpC speaks of the contexts in A whose codes are none of those. -/
noncomputable def badIds : List String := ["bytearray.__contains__", "bytearray.__mod__", "bytearray.__rmod__", "_struct.pack_into.held", "bytearray.find.held"] ++ Builtin.Bytes.decodersThatHold
noncomputable def badC : Code → Bool
  | .builtin id _ => badIds.contains id
  | _ => false
noncomputable def CleanB (l : List (Code × Pos)) : Prop := ∀ q ∈ l, badC q.1 = false
noncomputable def Clean (Γ : PySem.Ctx) : Prop := badC Γ.code = false ∧ CleanB Γ.below
noncomputable def wpC {α : Type} (M : Model) (A : Around) (t : Sem α) (Q : α → Shared → Prop) (E : Value → Shared → Prop) (s : Shared) : Prop :=
  ∀ Γ p, Γ.In A → Clean Γ → Sem.wp M Γ t (fun a _ s' => Q a s') (fun e _ s' => E e s') p s
noncomputable def codeC (M : Model) (A : Around) (c : Code) (R : Result → Shared → Prop) (s : Shared) : Prop :=
  ∀ Γ p, Γ.code = c → Γ.Below A → CleanB Γ.below → wpCode M Γ R p s
section
variable {α β : Type} {M : Model} {A : Around} {E : Value → Shared → Prop} {s : Shared}
theorem wpC_any {t : Sem α} {Q : α → Shared → Prop} (h : wpAny M A t Q E s) : wpC M A t Q E s := fun Γ p hΓ _ => h Γ p hΓ
theorem codeC_any {c : Code} {R : Result → Shared → Prop} (h : codeAny M A c R s) : codeC M A c R s := fun Γ p hc hΓ _ => h Γ p hc hΓ
theorem wpC_pure {a : α} {Q : α → Shared → Prop} (h : Q a s) : wpC M A (pure a) Q E s := wpC_any (wpAny_pure h)
theorem wpC_mono {t : Sem α} {Q Q' : α → Shared → Prop} {E' : Value → Shared → Prop} (h : wpC M A t Q E s) (hQ : ∀ a s, Q a s → Q' a s) (hE : ∀ e s, E e s → E' e s) : wpC M A t Q' E' s :=
  fun Γ p hΓ hc => Sem.wp_mono M Γ t (fun a _ s' => hQ a s') (fun e _ s' => hE e s') p s (h Γ p hΓ hc)
theorem wpC_bind {m : Sem α} {f : α → Sem β} {Q : β → Shared → Prop} (h : wpC M A m (fun a s' => wpC M A (f a) Q E s') E s) : wpC M A (m >>= f) Q E s := fun Γ p hΓ hc => by
  rw [Sem.wp_bind']
  exact Sem.wp_mono M Γ m (fun _ p' _ h' => h' Γ p' hΓ hc) (fun _ _ _ h' => h') p s (h Γ p hΓ hc)
theorem wpC_bindA {m : Sem α} {f : α → Sem β} {Q : β → Shared → Prop} (h : wpAny M A m (fun a s' => wpC M A (f a) Q E s') E s) : wpC M A (m >>= f) Q E s := wpC_bind (wpC_any h)
theorem codeC_mono {c : Code} {R R' : Result → Shared → Prop} (h : codeC M A c R s) (hR : ∀ r s, R r s → R' r s) : codeC M A c R' s := fun Γ p hc hΓ hb => wpCode_mono hR (h Γ p hc hΓ hb)
theorem wpC_runValue {c : Code} {Q : Value → Shared → Prop} (hc : codeC M A c (fun r s' => match r with | .ok (.ret v) => Q v s' | .ok _ => False | .error e => E e s') s) : wpC M A (runValue c) Q E s := fun Γ p hΓ hcl => by
  rw [Sem.wp_runValue]
  refine hc _ p rfl (hΓ.enter c none p (by intro x; cases x)) ?_
  intro q hq
  rcases List.mem_cons.mp hq with rfl | hq
  · exact hcl.1
  · exact hcl.2 q hq
theorem wpC_call {f : Value} {pos : List Value} {kw : List (Str × Value)} {Q : Value → Shared → Prop} (hc : codeC M A (.call f ⟨pos, kw⟩) (fun r s' => match r with | .ok (.ret v) => Q v s' | .ok _ => False | .error e => E e s') s) : wpC M A (call f pos kw) Q E s := wpC_runValue hc
theorem wpC_run {c : Code} {h : Option Value} {Q : Flow → Shared → Prop} (hc : codeC M (A.mark h) c (fun r s' => match r with | .ok f => Q f s' | .error e => E e s') s) (hnb : h ≠ some byPass := by intro x; cases x) : wpC M A (run c h) Q E s := fun Γ p hΓ hcl => by
  rw [Sem.wp_run]
  refine hc _ p rfl (hΓ.enter c h p hnb) ?_
  intro q hq
  rcases List.mem_cons.mp hq with rfl | hq
  · exact hcl.1
  · exact hcl.2 q hq
theorem codeC_tree {c : Code} {R : Result → Shared → Prop} (hb : badC c = false)
    (h : wpC M (A.under c) (M.den c) (fun fin s' => match fin with | .done f => R (.ok f) s' | .again c' => c'.quiet = true ∧ codeC M A c' R s') (fun e s' => R (.error e) s') s) : codeC M A c R s := fun Γ p hc hΓ hcl => by
  rw [wpCode_iff_wp, hc]
  refine Sem.wp_mono M Γ _ (fun fin p' s' h' => ?_) (fun _ _ _ h' => h') p s (h Γ p (hc ▸ hΓ.in) ⟨by rw [hc]; exact hb, hcl⟩)
  cases fin with
  | done f => exact h'
  | again c' => exact ⟨h'.1, h'.2 (Γ.goto c') p' rfl (hΓ.goto c') hcl⟩
theorem codeC_treeA {c : Code} {R : Result → Shared → Prop} (hb : badC c = false)
    (h : wpAny M (A.under c) (M.den c) (fun fin s' => match fin with | .done f => R (.ok f) s' | .again c' => c'.quiet = true ∧ codeC M A c' R s') (fun e s' => R (.error e) s') s) : codeC M A c R s := codeC_tree hb (wpC_any h)
theorem wpC_onRaise {m : Sem α} {k : Value → Sem Unit} {Q : α → Shared → Prop} (h : wpC M A m Q (fun e s' => wpAny M A (k e) (fun _ s'' => E e s'') E s') s) : wpC M A (m.onRaise k) Q E s := fun Γ p hΓ hc => by
  rw [Sem.wp_onRaise]
  exact Sem.wp_mono M Γ m (fun _ _ _ h' => h') (fun e p' s' h' => h' Γ p' hΓ) p s (h Γ p hΓ hc)
theorem wpC_holding {vs : List Value} {m : Sem α} {Q : α → Shared → Prop} (h : wpC M A m Q E s) : wpC M A (holding vs m) Q E s := fun Γ p hΓ hc => by rw [Sem.wp_holding]; exact h Γ p hΓ hc
theorem wpC_ite {c : Prop} [Decidable c] {t u : Sem α} {Q : α → Shared → Prop} (h : if c then wpC M A t Q E s else wpC M A u Q E s) : wpC M A (if c then t else u) Q E s := by
  split at h <;> simp_all
theorem wpC_cons {st : Stmt} {rest : List Stmt} {env : Env} {Q : Flow → Shared → Prop} (h : wpC M A (exec st env) (fun f s' => match f with | .next => wpC M A (execs rest env) Q E s' | f => Q f s') E s) : wpC M A (execs (st :: rest) env) Q E s := fun Γ p hΓ hc => by
  rw [execs_cons, Sem.wp_bind']
  refine Sem.wp_mono M Γ _ (fun f p' s' h' => ?_) (fun _ _ _ h' => h') _ _ (h Γ p hΓ hc)
  cases f <;> first | exact h' Γ p' hΓ hc | exact h'
theorem wp_split {Γ : PySem.Ctx} {env : Env} {Q : Flow → Pos → Shared → Prop} {E : Value → Pos → Shared → Prop} {l2 : List Stmt} : ∀ (l1 : List Stmt) (p : Pos) (s : Shared),
    Sem.wp M Γ (execs l1 env) (fun f p' s' => match f with | .next => Sem.wp M Γ (execs l2 env) Q E p' s' | f => Q f p' s') E p s → Sem.wp M Γ (execs (l1 ++ l2) env) Q E p s
  | [], p, s, h => by
    rw [execs_nil, Sem.wp_pure'] at h
    exact h
  | st :: r, p, s, h => by
    rw [execs_cons, Sem.wp_bind'] at h
    show Sem.wp M Γ (execs (st :: (r ++ l2)) env) Q E p s
    rw [execs_cons, Sem.wp_bind']
    refine Sem.wp_mono M Γ _ (fun f p' s' h' => ?_) (fun _ _ _ h' => h') _ _ h
    cases f with
    | next => exact wp_split r p' s' h'
    | _ => exact h'
/-- a body whose first part is walked as ever -/
theorem wpC_split {env : Env} {Q : Flow → Shared → Prop} {l2 : List Stmt} (l1 : List Stmt) (h : wpAny M A (execs l1 env) (fun f s' => match f with | .next => wpC M A (execs l2 env) Q E s' | f => Q f s') E s) : wpC M A (execs (l1 ++ l2) env) Q E s := fun Γ p hΓ hc => by
  refine wp_split l1 p s (Sem.wp_mono M Γ _ (fun f p' s' h' => ?_) (fun _ _ _ h' => h') p s (h Γ p hΓ))
  cases f with
  | next => exact h' Γ p' hΓ hc
  | _ => exact h'
end
section
open PyProof.Rows
/-- a thread ends as its clean walk says -/
theorem clean_ends {prog : Program} {w : World} {t : Sem Fin} {s : Shared} {R : Result → Shared → Prop} (still : s.asleep)
    (h : wpC (model prog w) callerA t (fun fin s' => ∃ f, fin = .done f ∧ R (.ok f) s' ∧ AllBare s'.gens) (fun e s' => R (.error e) s' ∧ AllBare s'.gens) s) :
    ∃ n r s₁ s₂, schedN (denote table) prog w n (.single s ⟨t, .builtin "claim.caller" {}, default, []⟩) = .halted (outcomeOf r) s₂ ∧
      runN (denote table) prog w n s ⟨t, .builtin "claim.caller" {}, default, []⟩ = .halted (outcomeOf r) s₂ ∧ s₂.forget = s₁.forget ∧ R r s₁ := by
  refine wp_halts_full (M := model prog w) still (Sem.wp_mono _ _ _ ?_ (fun e _ s' y => ⟨y.1, leftWithCleanup_false_of_bare y.2⟩) _ _ (h _ default caller_in ⟨rfl, fun q hq => nomatch hq⟩))
  rintro fin p' s' ⟨f, rfl, y1, y2⟩
  exact ⟨y1, leftWithCleanup_false_of_bare y2⟩
noncomputable abbrev WalkC (q : Program) (loose : List Str) (XP : (Str → Option Value) → Heap → Prop) (YP : World → Heap → Prop) (r : RowW) (d : DefRec) (kwd : List (Str × Expr)) : Prop :=
  ∀ (w : World) (s₀ s₁ : Shared) (mg mb : Str → Option Value), Ground q loose r.records XP w s₀ mg mb s₁.heap → YP w s₁.heap → ∀ (a : Addr) (o : Obj) (pm cd doc dV kV : Value), s₁.heap.get? a = some o →
    o.data = .func { docDef d.name d.params d.body d.scope pm cd doc with defaults := dV, kwdefaults := kV } → s₁.heap.CodeRec cd d.name → Dflts mg s₁.heap d.params kwd dV kV → mg d.name = some (.ref a) → s₁.gens = #[] →
    ∀ (args : List WData) (vals : List Value) (as : List Addr), r.claim.pre args = true → WData.layableAll args = true → ReadsAllW r.records (classAt s₀.heap) s₁.heap vals args as → WellAll w.params s₁.heap vals args → (∀ a ∈ as, (a == sysModules) = false) →
      wpC (model r.prog w) callerA (PySem.call (.ref a) vals) (fun v s' => GoodWG r.claim (classAt s₀.heap) (ExcName.means s₀.heap) args s₁ (.ok (.ret v)) s')
        (fun e s' => GoodWG r.claim (classAt s₀.heap) (ExcName.means s₀.heap) args s₁ (.error e) s') s₁
/-- what a run of the call ends with, for one layout of the arguments -/
noncomputable def EndsO (r : OpenRow) (s : Shared) (args : List WData) (vs : List Value) (s₁ : Shared) (res : Result) (s' : Shared) : Prop :=
  r.toRowW.claim.Ends s args vs s₁ res s' ∧ s'.os = s.os ∧ (r.writes = true → namesKept r.prog r.keeps s.heap s'.heap ∧ ∀ x ∈ r.records, ∀ a, classAt s.heap x.1 = some a → recordClass s'.heap a x.1 (x.2.map (·.1)) = true)
noncomputable def callO (r : OpenRow) (vs : List Value) : Sem Fin := do
  match ← nsGet mainNs r.name with
  | some f => do ret (← PySem.call f vs)
  | none => unsupported "claim.caller:no-such-global"
inductive RunO (r : OpenRow) (w : World) (s : Shared) (args : List WData) (ord : List DictEntry → List DictEntry) : Prop
  | mk : ∀ vs s₁ n res t1 t2, layAllW r.records (classAt s.heap) w.params ord args s = some (vs, s₁) →
    schedN (denote table) r.prog w n (.single s₁ ⟨callO r vs, .builtin "claim.caller" {}, default, []⟩) = .halted (outcomeOf res) t2 → t2.heap = t1.heap → t2.os = t1.os → s₁.gens = #[] → t2.heap.life = s.heap.life → EndsO r s args vs s₁ res t1 → RunO r w s args ord
inductive TopO (p : Program) (w : World) (st : Shared) (C G Y : Shared → Prop) : Prop
  | mk : ∀ s₀ s₁, fenceModules? p st = some s₀ → s₀.gens = #[] → TopRan p w s₀ s₁ → s₁.asleep → C s₁ → s₁.heap.isNs mainGlobals = true → G s₁ → Y s₁ → TopO p w st C G Y
theorem topO {p : Program} {w : World} {st : Shared} {C G Y : Shared → Prop} (h : ∃ s₀, fenceModules? p st = some s₀ ∧ s₀.gens = #[] ∧ ∃ s₁, TopRan p w s₀ s₁ ∧ s₁.asleep ∧ C s₁ ∧ s₁.heap.isNs mainGlobals = true ∧ G s₁ ∧ Y s₁) : TopO p w st C G Y := by
  obtain ⟨s₀, e1, e2, s₁, r, a, c, i, g, y⟩ := h
  exact ⟨s₀, s₁, e1, e2, r, a, c, i, g, y⟩
theorem callO_walk {r : OpenRow} {q : Program} {loose : List Str} {XP : (Str → Option Value) → Heap → Prop} {YP : World → Heap → Prop} {d : DefRec} {kwd : List (Str × Expr)} {w : World} {s s₁ : Shared} {args : List WData} {as : List Addr} {vs : List Value} {mg mb : Str → Option Value}
    (d1 : defOf q r.name = some (d, kwd)) (walk : WalkC q loose XP YP r.toRowW d kwd) (G1 : Ground q loose r.records XP w s mg mb s₁.heap) (y : YP w s₁.heap) (L : Laid r.records w s s₁ args vs as)
    (hpre : r.toRowW.claim.pre args = true) (hlay : WData.layableAll args = true) (low : ∀ a ∈ as, (a == sysModules) = false) {R : Result → Shared → Prop}
    (endV : ∀ v s', GoodWG r.toRowW.claim (classAt s.heap) (ExcName.means s.heap) args s₁ (.ok (.ret v)) s' → R (.ok (.ret v)) s' ∧ AllBare s'.gens)
    (endE : ∀ e s', GoodWG r.toRowW.claim (classAt s.heap) (ExcName.means s.heap) args s₁ (.error e) s' → R (.error e) s' ∧ AllBare s'.gens) :
    wpC (model r.prog w) callerA (callO r vs) (fun fin s' => ∃ f, fin = .done f ∧ R (.ok f) s' ∧ AllBare s'.gens) (fun e s' => R (.error e) s' ∧ AllBare s'.gens) s₁ := by
  obtain ⟨a, o, pm, cd, doc, dV, kV, c1, c2, c3, c4, c5⟩ := G1.fn d1
  have hw := walk w s s₁ _ _ G1 y a o pm cd doc dV kV c2 c3 c4 c5 (defOf_name d1 ▸ c1) L.gens args vs as hpre hlay L.reads L.well low
  refine wpC_bindA (wpAny_nsGet G1.T.g ?_)
  rw [c1]
  exact wpC_bind (wpC_mono hw (fun v s' g => wpC_pure ⟨_, rfl, endV v s' g⟩) fun e s' g => endE e s' g)
theorem run_open {r : OpenRow} {q : Program} {loose : List Str} {XP : (Str → Option Value) → Heap → Prop} {YP : World → Heap → Prop} {d : DefRec} {kwd : List (Str × Expr)} {w : World} {s s₀ : Shared} {args : List WData} {ord : List DictEntry → List DictEntry}
    (d1 : defOf q r.name = some (d, kwd)) (walk : WalkC q loose XP YP r.toRowW d kwd) (G : Ground q loose r.records XP w s (s.heap.nsMap mainGlobals) (s.heap.nsMap builtinsNs) s.heap)
    (x2 : ∀ mg h h', XP mg h → (∀ b o, h.get? b = some o → h'.get? b = some o) → XP mg h') (y2 : ∀ w h h', YP w h → (∀ b o, h.get? b = some o → h'.get? b = some o) → YP w h') (y : YP w s.heap) (g1 : s.gens = #[]) (still : s.asleep)
    (ran : TopRan r.prog w s₀ s) (isns : s.heap.isNs mainGlobals = true) (o3 : frees r.toRowW = true) (o4 : r.within.isEmpty = true) (nw : (!r.writes || r.records.isEmpty) = true) (hpre : r.toRowW.claim.pre args = true) (hlay : WData.layableAll args = true)
    (hord : ∀ l : List DictEntry, (ord l).Perm l) : RunO r w s args ord := by
  have fp := frees_parts o3
  have nowithin : r.toRowW.claim.within = [] := List.isEmpty_iff.mp o4
  have anyid := ident_freeW fp.2.1 fp.2.2.1 fp.2.2.2.1
  obtain ⟨⟨vs, s₁⟩, laid⟩ := Option.isSome_iff_exists.mp (layAllW_isSome (P := w.params) (ord := ord) G.has args r.args s (pre_splitW hpre).1)
  have kp := layAllW_keeps _ _ _ laid
  have al := layAllW_rest _ _ _ laid
  obtain ⟨as, hrd, hin, hold⟩ := reads_layAllW hord _ _ _ laid hlay s₁.heap (fun _ _ e => e)
  have L : Laid r.records w s s₁ args vs as := ⟨⟨ord, hord, laid⟩, hrd, hin, hold, kp, al.1.trans g1, al.2.2.1⟩
  have tree := callO_walk d1 walk (G.keeps x2 kp) (y2 _ _ _ y kp) L hpre hlay (L.low G.low) (R := EndsO r s args vs s₁)
    (fun v s' g => have z := g.laid (c := r.toRowW.claim) fp.1 nowithin anyid L; ⟨⟨z.1, z.2.1, fun q => ⟨namesKept_of ran isns r.keeps kp g.2.1.old, noTable nw q⟩⟩, z.2.2⟩)
    (fun v s' g => have z := g.laid (c := r.toRowW.claim) fp.1 nowithin anyid L; ⟨⟨z.1, z.2.1, fun q => ⟨namesKept_of ran isns r.keeps kp g.2.1.old, noTable nw q⟩⟩, z.2.2⟩)
  obtain ⟨n, res, t1, t2, hsched, hrun, hfo, hends⟩ := clean_ends (Shared.asleep_of_life al.2.2.2 still) tree
  have fe := Shared.forget_eq hfo
  exact ⟨vs, s₁, n, res, t1, t2, laid, hsched, fe.1, fe.2.2.2.1, al.1.trans g1, (runN_life _ _ _ hrun).trans al.2.2.2, hends⟩
/-- the head, for a walk at clean stacks -/
theorem open_holds {r : OpenRow} {q : Program} {loose : List Str} {Xt : Shared → Bool} {XP : (Str → Option Value) → Heap → Prop} {α : Type} {Yf : Shared → α} {Ya : World → α} {YP : World → Heap → Prop} {d : DefRec} {kwd : List (Str × Expr)} {N : Nat}
    (left : LeftO r.prog q loose Xt Yf Ya N) (y1 : ∀ w s, Yf s = Ya w → YP w s.heap) (y2 : ∀ w h h', YP w h → (∀ b o, h.get? b = some o → h'.get? b = some o) → YP w h')
    (x1 : ∀ s, Xt s = true → XP (s.heap.nsMap mainGlobals) s.heap) (x2 : ∀ mg h h', XP mg h → (∀ b o, h.get? b = some o → h'.get? b = some o) → XP mg h')
    (d1 : defOf q r.name = some (d, kwd)) (d2 : r.prog.theDef r.name = some (d.params, d.body, d.scope)) (d3 : kwWritten? d.params.kwonlyargs d.params.kw_defaults = some kwd) (rf : ∀ s, Xt s = true → RecFacts r.records s.heap) (nw : (!r.writes || r.records.isEmpty) = true)
    (said : r.wellSaid = true) (ok : (chainsOk q && opensWell r.prog && (frees r.toRowW && r.within.isEmpty)) = true) (bare : r.prog.bare) (wit : r.toRowW.promised)
    (walk : WalkC q loose XP YP r.toRowW d kwd) : r.Holds := by
  simp only [Bool.and_eq_true] at ok
  have both : ∀ s, Xt s = true → XP (s.heap.nsMap mainGlobals) s.heap ∧ RecFacts r.records s.heap := fun s hs => ⟨x1 s hs, rf s hs⟩
  refine ⟨said, wit, ⟨bare, ok.1.2, by show r.makers.map _ = []; rw [(frees_parts ok.2.1).2.2.2.2]; rfl⟩, wit.witness, fun w => ?_⟩
  have top := left.behind (XP := fun mg h => XP mg h ∧ RecFacts r.records h) both ok.1.1 w
  refine ⟨top.1, fun st hst => ?_⟩
  obtain ⟨s₀, s, e1, e2, ran, still, g0, isns, G2, yv⟩ := topO (top.2 st hst)
  have RF := G2.X.2
  have G0 : Ground q loose [] XP w s (s.heap.nsMap mainGlobals) (s.heap.nsMap builtinsNs) s.heap :=
    { T := G2.T, B := G2.B, D := G2.D, TE := G2.TE, TD := G2.TD, W := G2.W, X := G2.X.1, cls := G2.cls, has := G2.has, apart := G2.apart, once := G2.once, K := G2.K }
  have g1 : s.gens = #[] := Array.eq_empty_of_size_eq_zero (beq_iff_eq.mp g0)
  have G : Ground q loose r.records XP w s (s.heap.nsMap mainGlobals) (s.heap.nsMap builtinsNs) s.heap := RF.ground G0
  refine ⟨s₀, e1, e2, s, ran, fun n hn => ?_, RF.1, RF.2.1, fun args hpre hlay ord hord => ?_⟩
  · have : n = r.name := by split at hn <;> simp_all
    exact this ▸ pinned_of_view isns G0 d1 d2 d3
  obtain ⟨vs, s₁, n, res, t1, t2, laid, hsched, eh, eo, g2, hl, hends⟩ := run_open d1 walk G x2 y2 (y1 w s yv) g1 still ran isns ok.2.1 ok.2.2 nw hpre hlay hord
  refine ⟨vs, s₁, laid, n, outcomeOf res, t2, hsched, ?_, (fun _ i x hx => by rw [g1] at hx; simp at hx), by rw [eh]; exact hends.2.2, by rw [hl], Shared.rest_eq (eo.trans hends.2.1)⟩
  rcases hends.1.congr eh with ⟨v, rfl, b1, b2, b3, b4, b5⟩ | ⟨e, ob, cls, rfl, b1, b2, b3, b4, b5⟩
  · exact .inl ⟨v, rfl, b1, b2, b3, fun b o y _ => b4 b o y, b5⟩
  · exact .inr ⟨e, ob, cls, rfl, b1, b2, b3, b4, fun b o y _ => b5 b o y⟩
end

theorem anew_00 : True := by w_top off; trivial
/-! The written part of the heap behind the text's top (205 objects), printed by wip/tools; the defs' bodies stand by their place in the program. -/
noncomputable abbrev litOf {α : Type} {a b : α} (_ : a = b) : α := b
noncomputable abbrev nthS : List Stmt → Nat → Stmt
  | s :: _, 0 => s
  | _ :: r, n + 1 => nthS r n
  | [], _ => default
noncomputable abbrev bodyS : Stmt → List Stmt
  | .FunctionDef _ _ b _ _ _ _ _ _ _ => b
  | .ClassDef _ _ _ b _ _ _ _ _ _ _ => b
  | _ => []
noncomputable abbrev parS : Stmt → Arguments
  | .FunctionDef _ a _ _ _ _ _ _ _ _ => a
  | _ => default
noncomputable abbrev scoS : Stmt → Scope
  | .FunctionDef _ _ _ _ _ _ s _ _ _ => s
  | _ => default
noncomputable abbrev stS (n : Nat) : Stmt := nthS PySem.Challenge.pw_on0345_01.main.body n
noncomputable abbrev b21 : List Stmt := litOf (show bodyS (stS 0) = _ by conv => lhs; whnf)
noncomputable abbrev p21 : Arguments := litOf (show parS (stS 0) = _ by conv => lhs; whnf)
noncomputable abbrev s21 : Scope := litOf (show scoS (stS 0) = _ by conv => lhs; whnf)
noncomputable abbrev b28 : List Stmt := litOf (show bodyS (stS 2) = _ by conv => lhs; whnf)
noncomputable abbrev p28 : Arguments := litOf (show parS (stS 2) = _ by conv => lhs; whnf)
noncomputable abbrev s28 : Scope := litOf (show scoS (stS 2) = _ by conv => lhs; whnf)
noncomputable abbrev b35 : List Stmt := litOf (show bodyS (stS 3) = _ by conv => lhs; whnf)
noncomputable abbrev p35 : Arguments := litOf (show parS (stS 3) = _ by conv => lhs; whnf)
noncomputable abbrev s35 : Scope := litOf (show scoS (stS 3) = _ by conv => lhs; whnf)
noncomputable abbrev b42 : List Stmt := litOf (show bodyS (stS 4) = _ by conv => lhs; whnf)
noncomputable abbrev p42 : Arguments := litOf (show parS (stS 4) = _ by conv => lhs; whnf)
noncomputable abbrev s42 : Scope := litOf (show scoS (stS 4) = _ by conv => lhs; whnf)
noncomputable abbrev b49 : List Stmt := litOf (show bodyS (stS 5) = _ by conv => lhs; whnf)
noncomputable abbrev p49 : Arguments := litOf (show parS (stS 5) = _ by conv => lhs; whnf)
noncomputable abbrev s49 : Scope := litOf (show scoS (stS 5) = _ by conv => lhs; whnf)
noncomputable abbrev b63 : List Stmt := litOf (show bodyS (nthS (bodyS (stS 7)) 0) = _ by conv => lhs; whnf)
noncomputable abbrev p63 : Arguments := litOf (show parS (nthS (bodyS (stS 7)) 0) = _ by conv => lhs; whnf)
noncomputable abbrev s63 : Scope := litOf (show scoS (nthS (bodyS (stS 7)) 0) = _ by conv => lhs; whnf)
noncomputable abbrev b68 : List Stmt := litOf (show bodyS (nthS (bodyS (stS 7)) 1) = _ by conv => lhs; whnf)
noncomputable abbrev p68 : Arguments := litOf (show parS (nthS (bodyS (stS 7)) 1) = _ by conv => lhs; whnf)
noncomputable abbrev s68 : Scope := litOf (show scoS (nthS (bodyS (stS 7)) 1) = _ by conv => lhs; whnf)
noncomputable abbrev b75 : List Stmt := litOf (show bodyS (nthS (bodyS (stS 7)) 2) = _ by conv => lhs; whnf)
noncomputable abbrev p75 : Arguments := litOf (show parS (nthS (bodyS (stS 7)) 2) = _ by conv => lhs; whnf)
noncomputable abbrev s75 : Scope := litOf (show scoS (nthS (bodyS (stS 7)) 2) = _ by conv => lhs; whnf)
noncomputable abbrev b82 : List Stmt := litOf (show bodyS (nthS (bodyS (stS 7)) 3) = _ by conv => lhs; whnf)
noncomputable abbrev p82 : Arguments := litOf (show parS (nthS (bodyS (stS 7)) 3) = _ by conv => lhs; whnf)
noncomputable abbrev s82 : Scope := litOf (show scoS (nthS (bodyS (stS 7)) 3) = _ by conv => lhs; whnf)
noncomputable abbrev b89 : List Stmt := litOf (show bodyS (nthS (bodyS (stS 7)) 4) = _ by conv => lhs; whnf)
noncomputable abbrev p89 : Arguments := litOf (show parS (nthS (bodyS (stS 7)) 4) = _ by conv => lhs; whnf)
noncomputable abbrev s89 : Scope := litOf (show scoS (nthS (bodyS (stS 7)) 4) = _ by conv => lhs; whnf)
noncomputable abbrev b96 : List Stmt := litOf (show bodyS (nthS (bodyS (stS 7)) 5) = _ by conv => lhs; whnf)
noncomputable abbrev p96 : Arguments := litOf (show parS (nthS (bodyS (stS 7)) 5) = _ by conv => lhs; whnf)
noncomputable abbrev s96 : Scope := litOf (show scoS (nthS (bodyS (stS 7)) 5) = _ by conv => lhs; whnf)
noncomputable abbrev b103 : List Stmt := litOf (show bodyS (nthS (bodyS (stS 7)) 6) = _ by conv => lhs; whnf)
noncomputable abbrev p103 : Arguments := litOf (show parS (nthS (bodyS (stS 7)) 6) = _ by conv => lhs; whnf)
noncomputable abbrev s103 : Scope := litOf (show scoS (nthS (bodyS (stS 7)) 6) = _ by conv => lhs; whnf)
noncomputable abbrev b110 : List Stmt := litOf (show bodyS (nthS (bodyS (stS 7)) 7) = _ by conv => lhs; whnf)
noncomputable abbrev p110 : Arguments := litOf (show parS (nthS (bodyS (stS 7)) 7) = _ by conv => lhs; whnf)
noncomputable abbrev s110 : Scope := litOf (show scoS (nthS (bodyS (stS 7)) 7) = _ by conv => lhs; whnf)
noncomputable abbrev b117 : List Stmt := litOf (show bodyS (nthS (bodyS (stS 7)) 8) = _ by conv => lhs; whnf)
noncomputable abbrev p117 : Arguments := litOf (show parS (nthS (bodyS (stS 7)) 8) = _ by conv => lhs; whnf)
noncomputable abbrev s117 : Scope := litOf (show scoS (nthS (bodyS (stS 7)) 8) = _ by conv => lhs; whnf)
noncomputable abbrev b124 : List Stmt := litOf (show bodyS (nthS (bodyS (stS 7)) 9) = _ by conv => lhs; whnf)
noncomputable abbrev p124 : Arguments := litOf (show parS (nthS (bodyS (stS 7)) 9) = _ by conv => lhs; whnf)
noncomputable abbrev s124 : Scope := litOf (show scoS (nthS (bodyS (stS 7)) 9) = _ by conv => lhs; whnf)
noncomputable abbrev b131 : List Stmt := litOf (show bodyS (nthS (bodyS (stS 7)) 10) = _ by conv => lhs; whnf)
noncomputable abbrev p131 : Arguments := litOf (show parS (nthS (bodyS (stS 7)) 10) = _ by conv => lhs; whnf)
noncomputable abbrev s131 : Scope := litOf (show scoS (nthS (bodyS (stS 7)) 10) = _ by conv => lhs; whnf)
noncomputable abbrev b138 : List Stmt := litOf (show bodyS (nthS (bodyS (stS 7)) 11) = _ by conv => lhs; whnf)
noncomputable abbrev p138 : Arguments := litOf (show parS (nthS (bodyS (stS 7)) 11) = _ by conv => lhs; whnf)
noncomputable abbrev s138 : Scope := litOf (show scoS (nthS (bodyS (stS 7)) 11) = _ by conv => lhs; whnf)
noncomputable abbrev b160 : List Stmt := litOf (show bodyS (nthS (bodyS (stS 9)) 0) = _ by conv => lhs; whnf)
noncomputable abbrev p160 : Arguments := litOf (show parS (nthS (bodyS (stS 9)) 0) = _ by conv => lhs; whnf)
noncomputable abbrev s160 : Scope := litOf (show scoS (nthS (bodyS (stS 9)) 0) = _ by conv => lhs; whnf)
noncomputable abbrev b167 : List Stmt := litOf (show bodyS (nthS (bodyS (stS 9)) 1) = _ by conv => lhs; whnf)
noncomputable abbrev p167 : Arguments := litOf (show parS (nthS (bodyS (stS 9)) 1) = _ by conv => lhs; whnf)
noncomputable abbrev s167 : Scope := litOf (show scoS (nthS (bodyS (stS 9)) 1) = _ by conv => lhs; whnf)
noncomputable abbrev b174 : List Stmt := litOf (show bodyS (nthS (bodyS (stS 9)) 2) = _ by conv => lhs; whnf)
noncomputable abbrev p174 : Arguments := litOf (show parS (nthS (bodyS (stS 9)) 2) = _ by conv => lhs; whnf)
noncomputable abbrev s174 : Scope := litOf (show scoS (nthS (bodyS (stS 9)) 2) = _ by conv => lhs; whnf)
noncomputable abbrev b181 : List Stmt := litOf (show bodyS (nthS (bodyS (stS 9)) 3) = _ by conv => lhs; whnf)
noncomputable abbrev p181 : Arguments := litOf (show parS (nthS (bodyS (stS 9)) 3) = _ by conv => lhs; whnf)
noncomputable abbrev s181 : Scope := litOf (show scoS (nthS (bodyS (stS 9)) 3) = _ by conv => lhs; whnf)
noncomputable abbrev b188 : List Stmt := litOf (show bodyS (nthS (bodyS (stS 9)) 4) = _ by conv => lhs; whnf)
noncomputable abbrev p188 : Arguments := litOf (show parS (nthS (bodyS (stS 9)) 4) = _ by conv => lhs; whnf)
noncomputable abbrev s188 : Scope := litOf (show scoS (nthS (bodyS (stS 9)) 4) = _ by conv => lhs; whnf)
noncomputable abbrev b195 : List Stmt := litOf (show bodyS (nthS (bodyS (stS 9)) 5) = _ by conv => lhs; whnf)
noncomputable abbrev p195 : Arguments := litOf (show parS (nthS (bodyS (stS 9)) 5) = _ by conv => lhs; whnf)
noncomputable abbrev s195 : Scope := litOf (show scoS (nthS (bodyS (stS 9)) 5) = _ by conv => lhs; whnf)
noncomputable abbrev b202 : List Stmt := litOf (show bodyS (nthS (bodyS (stS 9)) 6) = _ by conv => lhs; whnf)
noncomputable abbrev p202 : Arguments := litOf (show parS (nthS (bodyS (stS 9)) 6) = _ by conv => lhs; whnf)
noncomputable abbrev s202 : Scope := litOf (show scoS (nthS (bodyS (stS 9)) 6) = _ by conv => lhs; whnf)
noncomputable abbrev b209 : List Stmt := litOf (show bodyS (nthS (bodyS (stS 9)) 7) = _ by conv => lhs; whnf)
noncomputable abbrev p209 : Arguments := litOf (show parS (nthS (bodyS (stS 9)) 7) = _ by conv => lhs; whnf)
noncomputable abbrev s209 : Scope := litOf (show scoS (nthS (bodyS (stS 9)) 7) = _ by conv => lhs; whnf)
noncomputable abbrev b216 : List Stmt := litOf (show bodyS (nthS (bodyS (stS 9)) 8) = _ by conv => lhs; whnf)
noncomputable abbrev p216 : Arguments := litOf (show parS (nthS (bodyS (stS 9)) 8) = _ by conv => lhs; whnf)
noncomputable abbrev s216 : Scope := litOf (show scoS (nthS (bodyS (stS 9)) 8) = _ by conv => lhs; whnf)
noncomputable abbrev b223 : List Stmt := litOf (show bodyS (nthS (bodyS (stS 9)) 9) = _ by conv => lhs; whnf)
noncomputable abbrev p223 : Arguments := litOf (show parS (nthS (bodyS (stS 9)) 9) = _ by conv => lhs; whnf)
noncomputable abbrev s223 : Scope := litOf (show scoS (nthS (bodyS (stS 9)) 9) = _ by conv => lhs; whnf)
noncomputable abbrev b230 : List Stmt := litOf (show bodyS (nthS (bodyS (stS 9)) 10) = _ by conv => lhs; whnf)
noncomputable abbrev p230 : Arguments := litOf (show parS (nthS (bodyS (stS 9)) 10) = _ by conv => lhs; whnf)
noncomputable abbrev s230 : Scope := litOf (show scoS (nthS (bodyS (stS 9)) 10) = _ by conv => lhs; whnf)
noncomputable abbrev b237 : List Stmt := litOf (show bodyS (nthS (bodyS (stS 9)) 11) = _ by conv => lhs; whnf)
noncomputable abbrev p237 : Arguments := litOf (show parS (nthS (bodyS (stS 9)) 11) = _ by conv => lhs; whnf)
noncomputable abbrev s237 : Scope := litOf (show scoS (nthS (bodyS (stS 9)) 11) = _ by conv => lhs; whnf)
noncomputable abbrev b244 : List Stmt := litOf (show bodyS (nthS (bodyS (stS 9)) 12) = _ by conv => lhs; whnf)
noncomputable abbrev p244 : Arguments := litOf (show parS (nthS (bodyS (stS 9)) 12) = _ by conv => lhs; whnf)
noncomputable abbrev s244 : Scope := litOf (show scoS (nthS (bodyS (stS 9)) 12) = _ by conv => lhs; whnf)
noncomputable abbrev b251 : List Stmt := litOf (show bodyS (nthS (bodyS (stS 9)) 13) = _ by conv => lhs; whnf)
noncomputable abbrev p251 : Arguments := litOf (show parS (nthS (bodyS (stS 9)) 13) = _ by conv => lhs; whnf)
noncomputable abbrev s251 : Scope := litOf (show scoS (nthS (bodyS (stS 9)) 13) = _ by conv => lhs; whnf)
noncomputable abbrev b258 : List Stmt := litOf (show bodyS (nthS (bodyS (stS 9)) 14) = _ by conv => lhs; whnf)
noncomputable abbrev p258 : Arguments := litOf (show parS (nthS (bodyS (stS 9)) 14) = _ by conv => lhs; whnf)
noncomputable abbrev s258 : Scope := litOf (show scoS (nthS (bodyS (stS 9)) 14) = _ by conv => lhs; whnf)
noncomputable abbrev b265 : List Stmt := litOf (show bodyS (nthS (bodyS (stS 9)) 15) = _ by conv => lhs; whnf)
noncomputable abbrev p265 : Arguments := litOf (show parS (nthS (bodyS (stS 9)) 15) = _ by conv => lhs; whnf)
noncomputable abbrev s265 : Scope := litOf (show scoS (nthS (bodyS (stS 9)) 15) = _ by conv => lhs; whnf)
noncomputable abbrev b272 : List Stmt := litOf (show bodyS (nthS (bodyS (stS 9)) 16) = _ by conv => lhs; whnf)
noncomputable abbrev p272 : Arguments := litOf (show parS (nthS (bodyS (stS 9)) 16) = _ by conv => lhs; whnf)
noncomputable abbrev s272 : Scope := litOf (show scoS (nthS (bodyS (stS 9)) 16) = _ by conv => lhs; whnf)
noncomputable abbrev b286 : List Stmt := litOf (show bodyS (stS 11) = _ by conv => lhs; whnf)
noncomputable abbrev p286 : Arguments := litOf (show parS (stS 11) = _ by conv => lhs; whnf)
noncomputable abbrev s286 : Scope := litOf (show scoS (stS 11) = _ by conv => lhs; whnf)
noncomputable abbrev b293 : List Stmt := litOf (show bodyS (stS 12) = _ by conv => lhs; whnf)
noncomputable abbrev p293 : Arguments := litOf (show parS (stS 12) = _ by conv => lhs; whnf)
noncomputable abbrev s293 : Scope := litOf (show scoS (stS 12) = _ by conv => lhs; whnf)
noncomputable abbrev b305 : List Stmt := litOf (show bodyS (stS 14) = _ by conv => lhs; whnf)
noncomputable abbrev p305 : Arguments := litOf (show parS (stS 14) = _ by conv => lhs; whnf)
noncomputable abbrev s305 : Scope := litOf (show scoS (stS 14) = _ by conv => lhs; whnf)
noncomputable abbrev b312 : List Stmt := litOf (show bodyS (stS 15) = _ by conv => lhs; whnf)
noncomputable abbrev p312 : Arguments := litOf (show parS (stS 15) = _ by conv => lhs; whnf)
noncomputable abbrev s312 : Scope := litOf (show scoS (stS 15) = _ by conv => lhs; whnf)
noncomputable abbrev b317 : List Stmt := litOf (show bodyS (stS 16) = _ by conv => lhs; whnf)
noncomputable abbrev p317 : Arguments := litOf (show parS (stS 16) = _ by conv => lhs; whnf)
noncomputable abbrev s317 : Scope := litOf (show scoS (stS 16) = _ by conv => lhs; whnf)
noncomputable abbrev b322 : List Stmt := litOf (show bodyS (stS 17) = _ by conv => lhs; whnf)
noncomputable abbrev p322 : Arguments := litOf (show parS (stS 17) = _ by conv => lhs; whnf)
noncomputable abbrev s322 : Scope := litOf (show scoS (stS 17) = _ by conv => lhs; whnf)
noncomputable def hd.heap_39 (P : Params) : Frag :=
  (nat_lit 2, { cls := Value.none, data := Data.dict #[] }) ::
  (nat_lit 3, { cls := Value.type "dict", data := Data.dict #[{ hash := PyData.keyHash P (Str.ofString "__name__"), key := Value.str (Str.ofString "__name__") 165, val := Value.str (Str.ofString "law_on0345_01") 566 }, { hash := PyData.keyHash P (Str.ofString "__doc__"), key := Value.str (Str.ofString "__doc__") 166, val := Value.none }, { hash := PyData.keyHash P (Str.ofString "__package__"), key := Value.str (Str.ofString "__package__") 167, val := Value.none }, { hash := PyData.keyHash P (Str.ofString "__loader__"), key := Value.str (Str.ofString "__loader__") 168, val := Value.builtin "__main__.__loader__#opaque" }, { hash := PyData.keyHash P (Str.ofString "__spec__"), key := Value.str (Str.ofString "__spec__") 169, val := Value.none }, { hash := PyData.keyHash P (Str.ofString "__annotations__"), key := Value.str (Str.ofString "__annotations__") 170, val := Value.ref 6 }, { hash := PyData.keyHash P (Str.ofString "__builtins__"), key := Value.str (Str.ofString "__builtins__") 171, val := Value.ref 4 }, { hash := PyData.keyHash P (Str.ofString "__file__"), key := Value.str (Str.ofString "__file__") 173, val := Value.str (Str.ofString "/claim/cut.py") 172 }, { hash := PyData.keyHash P (Str.ofString "__cached__"), key := Value.str (Str.ofString "__cached__") 174, val := Value.none }, { hash := PyData.keyHash P (Str.ofString "_wall"), key := Value.str (Str.ofString "_wall") 193, val := Value.ref 21 }, { hash := PyData.keyHash P (Str.ofString "plus"), key := Value.str (Str.ofString "plus") 204, val := Value.ref 28 }, { hash := PyData.keyHash P (Str.ofString "distance"), key := Value.str (Str.ofString "distance") 213, val := Value.ref 35 }, { hash := PyData.keyHash P (Str.ofString "is_before"), key := Value.str (Str.ofString "is_before") 223, val := Value.ref 42 }, { hash := PyData.keyHash P (Str.ofString "is_at_most"), key := Value.str (Str.ofString "is_at_most") 232, val := Value.ref 49 }, { hash := PyData.keyHash P (Str.ofString "Assembly"), key := Value.str (Str.ofString "Assembly") 390, val := Value.ref 141 }, { hash := PyData.keyHash P (Str.ofString "Receiver"), key := Value.str (Str.ofString "Receiver") 565, val := Value.ref 275 }, { hash := PyData.keyHash P (Str.ofString "_law_pool"), key := Value.str (Str.ofString "_law_pool") 578, val := Value.ref 286 }, { hash := PyData.keyHash P (Str.ofString "_law_take"), key := Value.str (Str.ofString "_law_take") 587, val := Value.ref 293 }, { hash := PyData.keyHash P (Str.ofString "_law_one"), key := Value.str (Str.ofString "_law_one") 595, val := Value.ref 300 }, { hash := PyData.keyHash P (Str.ofString "_law_arrived"), key := Value.str (Str.ofString "_law_arrived") 601, val := Value.ref 305 }, { hash := PyData.keyHash P (Str.ofString "_law_stands"), key := Value.str (Str.ofString "_law_stands") 615, val := Value.ref 312 }, { hash := PyData.keyHash P (Str.ofString "_law_read_right"), key := Value.str (Str.ofString "_law_read_right") 621, val := Value.ref 317 }, { hash := PyData.keyHash P (Str.ofString "law"), key := Value.str (Str.ofString "law") 627, val := Value.ref 322 }] 23 }) ::
  (nat_lit 15, { cls := Value.type "tuple", data := Data.seq #[] }) ::
  (nat_lit 17, { cls := Value.type "tuple", data := Data.seq #[Value.str (Str.ofString "k") 190] }) ::
  (nat_lit 18, { cls := Value.type "tuple", data := Data.seq #[] }) ::
  (nat_lit 20, { cls := Value.type "code", data := Data.fields #[Value.str (Str.ofString "_wall") 187, Value.str (Str.ofString "_wall") 188, Value.str (Str.ofString "/claim/cut.py") 189, Value.int 1 0, Value.int 1 0, Value.int 0 0, Value.int 0 0, Value.int 3 0, Value.ref 15, Value.bool true, Value.int 181 0, Value.ref 16, Value.none, Value.ref 17, Value.ref 18, Value.ref 19, Value.int 191 0, Value.int 1 0, Value.str (Str.ofString "/claim/cut.py") 192] }) ::
  (nat_lit 21, { cls := Value.type "function", data := Data.func { name := Str.ofString "_wall", qualname := Str.ofString "_wall", params := p21, body := FuncBody.stmts b21, scope := s21, globals := 3, closure := [], defaults := Value.none, kwdefaults := Value.none, pyModule := Value.str (Str.ofString "__main__") 164, code := Value.ref 20 } }) ::
  (nat_lit 22, { cls := Value.type "tuple", data := Data.seq #[] }) ::
  (nat_lit 24, { cls := Value.type "tuple", data := Data.seq #[Value.str (Str.ofString "a") 199, Value.str (Str.ofString "n") 200, Value.str (Str.ofString "ring") 201] }) ::
  (nat_lit 25, { cls := Value.type "tuple", data := Data.seq #[] }) ::
  (nat_lit 27, { cls := Value.type "code", data := Data.fields #[Value.str (Str.ofString "plus") 196, Value.str (Str.ofString "plus") 197, Value.str (Str.ofString "/claim/cut.py") 198, Value.int 5 0, Value.int 3 0, Value.int 0 0, Value.int 0 0, Value.int 3 0, Value.ref 22, Value.bool true, Value.int 181 0, Value.ref 23, Value.none, Value.ref 24, Value.ref 25, Value.ref 26, Value.int 202 0, Value.int 5 0, Value.str (Str.ofString "/claim/cut.py") 203] }) ::
  (nat_lit 28, { cls := Value.type "function", data := Data.func { name := Str.ofString "plus", qualname := Str.ofString "plus", params := p28, body := FuncBody.stmts b28, scope := s28, globals := 3, closure := [], defaults := Value.none, kwdefaults := Value.none, pyModule := Value.str (Str.ofString "thinstack.sequence") 194, code := Value.ref 27 } }) ::
  (nat_lit 29, { cls := Value.type "tuple", data := Data.seq #[] }) ::
  (nat_lit 31, { cls := Value.type "tuple", data := Data.seq #[Value.str (Str.ofString "a") 208, Value.str (Str.ofString "b") 209, Value.str (Str.ofString "ring") 210] }) ::
  (nat_lit 32, { cls := Value.type "tuple", data := Data.seq #[] }) ::
  (nat_lit 34, { cls := Value.type "code", data := Data.fields #[Value.str (Str.ofString "distance") 205, Value.str (Str.ofString "distance") 206, Value.str (Str.ofString "/claim/cut.py") 207, Value.int 7 0, Value.int 3 0, Value.int 0 0, Value.int 0 0, Value.int 3 0, Value.ref 29, Value.bool true, Value.int 181 0, Value.ref 30, Value.none, Value.ref 31, Value.ref 32, Value.ref 33, Value.int 211 0, Value.int 7 0, Value.str (Str.ofString "/claim/cut.py") 212] }) ::
  (nat_lit 35, { cls := Value.type "function", data := Data.func { name := Str.ofString "distance", qualname := Str.ofString "distance", params := p35, body := FuncBody.stmts b35, scope := s35, globals := 3, closure := [], defaults := Value.none, kwdefaults := Value.none, pyModule := Value.str (Str.ofString "thinstack.sequence") 194, code := Value.ref 34 } }) ::
  (nat_lit 36, { cls := Value.type "tuple", data := Data.seq #[] }) ::
  (nat_lit 38, { cls := Value.type "tuple", data := Data.seq #[Value.str (Str.ofString "a") 217, Value.str (Str.ofString "b") 218, Value.str (Str.ofString "ring") 219, Value.str (Str.ofString "gap") 220] }) ::
  (nat_lit 39, { cls := Value.type "tuple", data := Data.seq #[] }) ::
  (nat_lit 41, { cls := Value.type "code", data := Data.fields #[Value.str (Str.ofString "is_before") 214, Value.str (Str.ofString "is_before") 215, Value.str (Str.ofString "/claim/cut.py") 216, Value.int 9 0, Value.int 3 0, Value.int 0 0, Value.int 0 0, Value.int 3 0, Value.ref 36, Value.bool true, Value.int 181 0, Value.ref 37, Value.none, Value.ref 38, Value.ref 39, Value.ref 40, Value.int 221 0, Value.int 9 0, Value.str (Str.ofString "/claim/cut.py") 222] }) ::
  (nat_lit 42, { cls := Value.type "function", data := Data.func { name := Str.ofString "is_before", qualname := Str.ofString "is_before", params := p42, body := FuncBody.stmts b42, scope := s42, globals := 3, closure := [], defaults := Value.none, kwdefaults := Value.none, pyModule := Value.str (Str.ofString "thinstack.sequence") 194, code := Value.ref 41 } }) ::
  (nat_lit 43, { cls := Value.type "tuple", data := Data.seq #[] }) ::
  (nat_lit 45, { cls := Value.type "tuple", data := Data.seq #[Value.str (Str.ofString "a") 227, Value.str (Str.ofString "b") 228, Value.str (Str.ofString "ring") 229] }) ::
  (nat_lit 46, { cls := Value.type "tuple", data := Data.seq #[] }) ::
  (nat_lit 48, { cls := Value.type "code", data := Data.fields #[Value.str (Str.ofString "is_at_most") 224, Value.str (Str.ofString "is_at_most") 225, Value.str (Str.ofString "/claim/cut.py") 226, Value.int 12 0, Value.int 3 0, Value.int 0 0, Value.int 0 0, Value.int 3 0, Value.ref 43, Value.bool true, Value.int 181 0, Value.ref 44, Value.none, Value.ref 45, Value.ref 46, Value.ref 47, Value.int 230 0, Value.int 12 0, Value.str (Str.ofString "/claim/cut.py") 231] }) ::
  (nat_lit 49, { cls := Value.type "function", data := Data.func { name := Str.ofString "is_at_most", qualname := Str.ofString "is_at_most", params := p49, body := FuncBody.stmts b49, scope := s49, globals := 3, closure := [], defaults := Value.none, kwdefaults := Value.none, pyModule := Value.str (Str.ofString "thinstack.sequence") 194, code := Value.ref 48 } }) ::
  (nat_lit 57, { cls := Value.type "tuple", data := Data.seq #[] }) ::
  (nat_lit 59, { cls := Value.type "tuple", data := Data.seq #[Value.str (Str.ofString "self") 250, Value.str (Str.ofString "ring") 251] }) ::
  (nat_lit 60, { cls := Value.type "tuple", data := Data.seq #[] }) ::
  (nat_lit 62, { cls := Value.type "code", data := Data.fields #[Value.str (Str.ofString "__init__") 247, Value.str (Str.ofString "Assembly.__init__") 248, Value.str (Str.ofString "/claim/cut.py") 249, Value.int 17 0, Value.int 2 0, Value.int 0 0, Value.int 0 0, Value.int 3 0, Value.ref 57, Value.bool true, Value.int 181 0, Value.ref 58, Value.none, Value.ref 59, Value.ref 60, Value.ref 61, Value.int 252 0, Value.int 17 0, Value.str (Str.ofString "/claim/cut.py") 253] }) ::
  (nat_lit 63, { cls := Value.type "function", data := Data.func { name := Str.ofString "__init__", qualname := Str.ofString "Assembly.__init__", params := p63, body := FuncBody.stmts b63, scope := s63, globals := 3, closure := [], defaults := Value.none, kwdefaults := Value.none, pyModule := Value.str (Str.ofString "thinstack.assembly") 233, code := Value.ref 62 } }) ::
  (nat_lit 64, { cls := Value.type "tuple", data := Data.seq #[] }) ::
  (nat_lit 67, { cls := Value.type "code", data := Data.fields #[Value.str (Str.ofString "size") 255, Value.str (Str.ofString "Assembly.size") 256, Value.str (Str.ofString "/claim/cut.py") 257, Value.int 21 0, Value.int 1 0, Value.int 0 0, Value.int 0 0, Value.int 3 0, Value.ref 64, Value.bool true, Value.int 181 0, Value.ref 65, Value.none, Value.none, Value.none, Value.ref 66, Value.int 258 0, Value.int 21 0, Value.str (Str.ofString "/claim/cut.py") 259] }) ::
  (nat_lit 68, { cls := Value.type "function", data := Data.func { name := Str.ofString "size", qualname := Str.ofString "Assembly.size", params := p68, body := FuncBody.stmts b68, scope := s68, globals := 3, closure := [], defaults := Value.none, kwdefaults := Value.none, pyModule := Value.str (Str.ofString "thinstack.assembly") 233, code := Value.ref 67 } }) ::
  (nat_lit 69, { cls := Value.type "tuple", data := Data.seq #[] }) ::
  (nat_lit 71, { cls := Value.type "tuple", data := Data.seq #[Value.str (Str.ofString "self") 264] }) ::
  (nat_lit 72, { cls := Value.type "tuple", data := Data.seq #[] }) ::
  (nat_lit 74, { cls := Value.type "code", data := Data.fields #[Value.str (Str.ofString "is_empty") 261, Value.str (Str.ofString "Assembly.is_empty") 262, Value.str (Str.ofString "/claim/cut.py") 263, Value.int 24 0, Value.int 1 0, Value.int 0 0, Value.int 0 0, Value.int 3 0, Value.ref 69, Value.bool true, Value.int 181 0, Value.ref 70, Value.none, Value.ref 71, Value.ref 72, Value.ref 73, Value.int 265 0, Value.int 24 0, Value.str (Str.ofString "/claim/cut.py") 266] }) ::
  (nat_lit 75, { cls := Value.type "function", data := Data.func { name := Str.ofString "is_empty", qualname := Str.ofString "Assembly.is_empty", params := p75, body := FuncBody.stmts b75, scope := s75, globals := 3, closure := [], defaults := Value.none, kwdefaults := Value.none, pyModule := Value.str (Str.ofString "thinstack.assembly") 233, code := Value.ref 74 } }) ::
  (nat_lit 76, { cls := Value.type "tuple", data := Data.seq #[] }) ::
  (nat_lit 78, { cls := Value.type "tuple", data := Data.seq #[Value.str (Str.ofString "self") 271, Value.str (Str.ofString "seq") 272, Value.str (Str.ofString "next") 273] }) ::
  (nat_lit 79, { cls := Value.type "tuple", data := Data.seq #[] }) ::
  (nat_lit 81, { cls := Value.type "code", data := Data.fields #[Value.str (Str.ofString "offset") 268, Value.str (Str.ofString "Assembly.offset") 269, Value.str (Str.ofString "/claim/cut.py") 270, Value.int 27 0, Value.int 3 0, Value.int 0 0, Value.int 0 0, Value.int 3 0, Value.ref 76, Value.bool true, Value.int 181 0, Value.ref 77, Value.none, Value.ref 78, Value.ref 79, Value.ref 80, Value.int 274 0, Value.int 27 0, Value.str (Str.ofString "/claim/cut.py") 275] }) ::
  (nat_lit 82, { cls := Value.type "function", data := Data.func { name := Str.ofString "offset", qualname := Str.ofString "Assembly.offset", params := p82, body := FuncBody.stmts b82, scope := s82, globals := 3, closure := [], defaults := Value.none, kwdefaults := Value.none, pyModule := Value.str (Str.ofString "thinstack.assembly") 233, code := Value.ref 81 } }) ::
  (nat_lit 83, { cls := Value.type "tuple", data := Data.seq #[] }) ::
  (nat_lit 85, { cls := Value.type "tuple", data := Data.seq #[Value.str (Str.ofString "self") 280, Value.str (Str.ofString "seq") 281, Value.str (Str.ofString "octets") 282, Value.str (Str.ofString "next") 283, Value.str (Str.ofString "begin") 284, Value.str (Str.ofString "fresh") 285] }) ::
  (nat_lit 86, { cls := Value.type "tuple", data := Data.seq #[] }) ::
  (nat_lit 88, { cls := Value.type "code", data := Data.fields #[Value.str (Str.ofString "put") 277, Value.str (Str.ofString "Assembly.put") 278, Value.str (Str.ofString "/claim/cut.py") 279, Value.int 32 0, Value.int 4 0, Value.int 0 0, Value.int 0 0, Value.int 3 0, Value.ref 83, Value.bool true, Value.int 181 0, Value.ref 84, Value.none, Value.ref 85, Value.ref 86, Value.ref 87, Value.int 286 0, Value.int 32 0, Value.str (Str.ofString "/claim/cut.py") 287] }) ::
  (nat_lit 89, { cls := Value.type "function", data := Data.func { name := Str.ofString "put", qualname := Str.ofString "Assembly.put", params := p89, body := FuncBody.stmts b89, scope := s89, globals := 3, closure := [], defaults := Value.none, kwdefaults := Value.none, pyModule := Value.str (Str.ofString "thinstack.assembly") 233, code := Value.ref 88 } }) ::
  (nat_lit 90, { cls := Value.type "tuple", data := Data.seq #[] }) ::
  (nat_lit 92, { cls := Value.type "tuple", data := Data.seq #[Value.str (Str.ofString "self") 292, Value.str (Str.ofString "begin") 293, Value.str (Str.ofString "octets") 294, Value.str (Str.ofString "next") 295, Value.str (Str.ofString "end") 296, Value.str (Str.ofString "found") 297, Value.str (Str.ofString "at") 298, Value.str (Str.ofString "seq") 299, Value.str (Str.ofString "kept") 300, Value.str (Str.ofString "first") 301, Value.str (Str.ofString "last") 302] }) ::
  (nat_lit 93, { cls := Value.type "tuple", data := Data.seq #[] }) ::
  (nat_lit 95, { cls := Value.type "code", data := Data.fields #[Value.str (Str.ofString "missing") 289, Value.str (Str.ofString "Assembly.missing") 290, Value.str (Str.ofString "/claim/cut.py") 291, Value.int 42 0, Value.int 4 0, Value.int 0 0, Value.int 0 0, Value.int 3 0, Value.ref 90, Value.bool true, Value.int 181 0, Value.ref 91, Value.none, Value.ref 92, Value.ref 93, Value.ref 94, Value.int 303 0, Value.int 42 0, Value.str (Str.ofString "/claim/cut.py") 304] }) ::
  (nat_lit 96, { cls := Value.type "function", data := Data.func { name := Str.ofString "missing", qualname := Str.ofString "Assembly.missing", params := p96, body := FuncBody.stmts b96, scope := s96, globals := 3, closure := [], defaults := Value.none, kwdefaults := Value.none, pyModule := Value.str (Str.ofString "thinstack.assembly") 233, code := Value.ref 95 } }) ::
  (nat_lit 97, { cls := Value.type "tuple", data := Data.seq #[] }) ::
  (nat_lit 99, { cls := Value.type "tuple", data := Data.seq #[Value.str (Str.ofString "self") 309, Value.str (Str.ofString "fresh") 310, Value.str (Str.ofString "next") 311, Value.str (Str.ofString "found") 312, Value.str (Str.ofString "rest") 313, Value.str (Str.ofString "seq") 314, Value.str (Str.ofString "kept") 315, Value.str (Str.ofString "first") 316] }) ::
  (nat_lit 100, { cls := Value.type "tuple", data := Data.seq #[] }) ::
  (nat_lit 102, { cls := Value.type "code", data := Data.fields #[Value.str (Str.ofString "merged") 306, Value.str (Str.ofString "Assembly.merged") 307, Value.str (Str.ofString "/claim/cut.py") 308, Value.int 59 0, Value.int 3 0, Value.int 0 0, Value.int 0 0, Value.int 3 0, Value.ref 97, Value.bool true, Value.int 181 0, Value.ref 98, Value.none, Value.ref 99, Value.ref 100, Value.ref 101, Value.int 317 0, Value.int 59 0, Value.str (Str.ofString "/claim/cut.py") 318] }) ::
  (nat_lit 103, { cls := Value.type "function", data := Data.func { name := Str.ofString "merged", qualname := Str.ofString "Assembly.merged", params := p103, body := FuncBody.stmts b103, scope := s103, globals := 3, closure := [], defaults := Value.none, kwdefaults := Value.none, pyModule := Value.str (Str.ofString "thinstack.assembly") 233, code := Value.ref 102 } }) ::
  (nat_lit 104, { cls := Value.type "tuple", data := Data.seq #[] }) ::
  (nat_lit 106, { cls := Value.type "tuple", data := Data.seq #[Value.str (Str.ofString "self") 323, Value.str (Str.ofString "pieces") 324, Value.str (Str.ofString "next") 325, Value.str (Str.ofString "found") 326, Value.str (Str.ofString "end") 327, Value.str (Str.ofString "first") 328, Value.str (Str.ofString "octets") 329, Value.str (Str.ofString "seq") 330, Value.str (Str.ofString "ahead") 331] }) ::
  (nat_lit 107, { cls := Value.type "tuple", data := Data.seq #[] }) ::
  (nat_lit 109, { cls := Value.type "code", data := Data.fields #[Value.str (Str.ofString "joined") 320, Value.str (Str.ofString "Assembly.joined") 321, Value.str (Str.ofString "/claim/cut.py") 322, Value.int 68 0, Value.int 3 0, Value.int 0 0, Value.int 0 0, Value.int 3 0, Value.ref 104, Value.bool true, Value.int 181 0, Value.ref 105, Value.none, Value.ref 106, Value.ref 107, Value.ref 108, Value.int 332 0, Value.int 68 0, Value.str (Str.ofString "/claim/cut.py") 333] }) ::
  (nat_lit 110, { cls := Value.type "function", data := Data.func { name := Str.ofString "joined", qualname := Str.ofString "Assembly.joined", params := p110, body := FuncBody.stmts b110, scope := s110, globals := 3, closure := [], defaults := Value.none, kwdefaults := Value.none, pyModule := Value.str (Str.ofString "thinstack.assembly") 233, code := Value.ref 109 } }) ::
  (nat_lit 111, { cls := Value.type "tuple", data := Data.seq #[] }) ::
  (nat_lit 113, { cls := Value.type "tuple", data := Data.seq #[Value.str (Str.ofString "self") 338, Value.str (Str.ofString "next") 339, Value.str (Str.ofString "seq") 340, Value.str (Str.ofString "octets") 341, Value.str (Str.ofString "begin") 342] }) ::
  (nat_lit 114, { cls := Value.type "tuple", data := Data.seq #[] }) ::
  (nat_lit 116, { cls := Value.type "code", data := Data.fields #[Value.str (Str.ofString "forget") 335, Value.str (Str.ofString "Assembly.forget") 336, Value.str (Str.ofString "/claim/cut.py") 337, Value.int 79 0, Value.int 2 0, Value.int 0 0, Value.int 0 0, Value.int 3 0, Value.ref 111, Value.bool true, Value.int 181 0, Value.ref 112, Value.none, Value.ref 113, Value.ref 114, Value.ref 115, Value.int 343 0, Value.int 79 0, Value.str (Str.ofString "/claim/cut.py") 344] }) ::
  (nat_lit 117, { cls := Value.type "function", data := Data.func { name := Str.ofString "forget", qualname := Str.ofString "Assembly.forget", params := p117, body := FuncBody.stmts b117, scope := s117, globals := 3, closure := [], defaults := Value.none, kwdefaults := Value.none, pyModule := Value.str (Str.ofString "thinstack.assembly") 233, code := Value.ref 116 } }) ::
  (nat_lit 118, { cls := Value.type "tuple", data := Data.seq #[] }) ::
  (nat_lit 120, { cls := Value.type "tuple", data := Data.seq #[Value.str (Str.ofString "self") 349, Value.str (Str.ofString "next") 350] }) ::
  (nat_lit 121, { cls := Value.type "tuple", data := Data.seq #[] }) ::
  (nat_lit 123, { cls := Value.type "code", data := Data.fields #[Value.str (Str.ofString "take") 346, Value.str (Str.ofString "Assembly.take") 347, Value.str (Str.ofString "/claim/cut.py") 348, Value.int 90 0, Value.int 2 0, Value.int 0 0, Value.int 0 0, Value.int 3 0, Value.ref 118, Value.bool true, Value.int 181 0, Value.ref 119, Value.none, Value.ref 120, Value.ref 121, Value.ref 122, Value.int 351 0, Value.int 90 0, Value.str (Str.ofString "/claim/cut.py") 352] }) ::
  (nat_lit 124, { cls := Value.type "function", data := Data.func { name := Str.ofString "take", qualname := Str.ofString "Assembly.take", params := p124, body := FuncBody.stmts b124, scope := s124, globals := 3, closure := [], defaults := Value.none, kwdefaults := Value.none, pyModule := Value.str (Str.ofString "thinstack.assembly") 233, code := Value.ref 123 } }) ::
  (nat_lit 125, { cls := Value.type "tuple", data := Data.seq #[] }) ::
  (nat_lit 127, { cls := Value.type "tuple", data := Data.seq #[Value.str (Str.ofString "self") 357, Value.str (Str.ofString "next") 358, Value.str (Str.ofString "found") 359, Value.str (Str.ofString "at") 360, Value.str (Str.ofString "seq") 361, Value.str (Str.ofString "octets") 362, Value.str (Str.ofString "missing") 363] }) ::
  (nat_lit 128, { cls := Value.type "tuple", data := Data.seq #[] }) ::
  (nat_lit 130, { cls := Value.type "code", data := Data.fields #[Value.str (Str.ofString "holes") 354, Value.str (Str.ofString "Assembly.holes") 355, Value.str (Str.ofString "/claim/cut.py") 356, Value.int 96 0, Value.int 2 0, Value.int 0 0, Value.int 0 0, Value.int 3 0, Value.ref 125, Value.bool true, Value.int 181 0, Value.ref 126, Value.none, Value.ref 127, Value.ref 128, Value.ref 129, Value.int 364 0, Value.int 96 0, Value.str (Str.ofString "/claim/cut.py") 365] }) ::
  (nat_lit 131, { cls := Value.type "function", data := Data.func { name := Str.ofString "holes", qualname := Str.ofString "Assembly.holes", params := p131, body := FuncBody.stmts b131, scope := s131, globals := 3, closure := [], defaults := Value.none, kwdefaults := Value.none, pyModule := Value.str (Str.ofString "thinstack.assembly") 233, code := Value.ref 130 } }) ::
  (nat_lit 132, { cls := Value.type "tuple", data := Data.seq #[] }) ::
  (nat_lit 134, { cls := Value.type "tuple", data := Data.seq #[Value.str (Str.ofString "self") 370, Value.str (Str.ofString "edge") 371, Value.str (Str.ofString "next") 372, Value.str (Str.ofString "most") 373, Value.str (Str.ofString "found") 374, Value.str (Str.ofString "seq") 375, Value.str (Str.ofString "octets") 376, Value.str (Str.ofString "left") 377] }) ::
  (nat_lit 135, { cls := Value.type "tuple", data := Data.seq #[] }) ::
  (nat_lit 137, { cls := Value.type "code", data := Data.fields #[Value.str (Str.ofString "cut_behind") 367, Value.str (Str.ofString "Assembly.cut_behind") 368, Value.str (Str.ofString "/claim/cut.py") 369, Value.int 105 0, Value.int 3 0, Value.int 0 0, Value.int 0 0, Value.int 3 0, Value.ref 132, Value.bool true, Value.int 181 0, Value.ref 133, Value.none, Value.ref 134, Value.ref 135, Value.ref 136, Value.int 378 0, Value.int 105 0, Value.str (Str.ofString "/claim/cut.py") 379] }) ::
  (nat_lit 138, { cls := Value.type "function", data := Data.func { name := Str.ofString "cut_behind", qualname := Str.ofString "Assembly.cut_behind", params := p138, body := FuncBody.stmts b138, scope := s138, globals := 3, closure := [], defaults := Value.none, kwdefaults := Value.none, pyModule := Value.str (Str.ofString "thinstack.assembly") 233, code := Value.ref 137 } }) ::
  (nat_lit 139, { cls := Value.type "tuple", data := Data.seq #[Value.str (Str.ofString "parts") 381, Value.str (Str.ofString "ring") 382] }) ::
  (nat_lit 140, { cls := Value.type "dict", data := Data.dict #[{ hash := PyData.keyHash P (Str.ofString "__module__"), key := Value.str (Str.ofString "__module__") 242, val := Value.str (Str.ofString "thinstack.assembly") 233 }, { hash := PyData.keyHash P (Str.ofString "__firstlineno__"), key := Value.str (Str.ofString "__firstlineno__") 246, val := Value.int 15 245 }, { hash := PyData.keyHash P (Str.ofString "__init__"), key := Value.str (Str.ofString "__init__") 254, val := Value.ref 63 }, { hash := PyData.keyHash P (Str.ofString "size"), key := Value.str (Str.ofString "size") 260, val := Value.ref 68 }, { hash := PyData.keyHash P (Str.ofString "is_empty"), key := Value.str (Str.ofString "is_empty") 267, val := Value.ref 75 }, { hash := PyData.keyHash P (Str.ofString "offset"), key := Value.str (Str.ofString "offset") 276, val := Value.ref 82 }, { hash := PyData.keyHash P (Str.ofString "put"), key := Value.str (Str.ofString "put") 288, val := Value.ref 89 }, { hash := PyData.keyHash P (Str.ofString "missing"), key := Value.str (Str.ofString "missing") 305, val := Value.ref 96 }, { hash := PyData.keyHash P (Str.ofString "merged"), key := Value.str (Str.ofString "merged") 319, val := Value.ref 103 }, { hash := PyData.keyHash P (Str.ofString "joined"), key := Value.str (Str.ofString "joined") 334, val := Value.ref 110 }, { hash := PyData.keyHash P (Str.ofString "forget"), key := Value.str (Str.ofString "forget") 345, val := Value.ref 117 }, { hash := PyData.keyHash P (Str.ofString "take"), key := Value.str (Str.ofString "take") 353, val := Value.ref 124 }, { hash := PyData.keyHash P (Str.ofString "holes"), key := Value.str (Str.ofString "holes") 366, val := Value.ref 131 }, { hash := PyData.keyHash P (Str.ofString "cut_behind"), key := Value.str (Str.ofString "cut_behind") 380, val := Value.ref 138 }, { hash := PyData.keyHash P (Str.ofString "__static_attributes__"), key := Value.str (Str.ofString "__static_attributes__") 383, val := Value.ref 139 }, { hash := PyData.keyHash P (Str.ofString "__dict__"), key := Value.str (Str.ofString "__dict__") 385, val := Value.ref 142 }, { hash := PyData.keyHash P (Str.ofString "__weakref__"), key := Value.str (Str.ofString "__weakref__") 387, val := Value.ref 143 }, { hash := PyData.keyHash P (Str.ofString "__doc__"), key := Value.str (Str.ofString "__doc__") 388, val := Value.none }] 4 }) ::
  (nat_lit 141, { cls := Value.type "type", data := Data.cls { name := Str.ofString "Assembly", bases := [Value.type "object"], mro := [Value.ref 141, Value.type "object"], ns := 140, qualname := Str.ofString "Assembly" }, slots := #[none, none, some (Value.str (Str.ofString "Assembly") 235), some (Value.str (Str.ofString "Assembly") 243), some (Value.builtin "object.__new__"), some (Value.bool true)] }) ::
  (nat_lit 142, { cls := Value.type "getset_descriptor", data := Data.fields #[Value.str (Str.ofString "__dict__") 384, Value.ref 141, Value.builtin "function.__dict__", Value.builtin "function.__dict__#set"] }) ::
  (nat_lit 143, { cls := Value.type "getset_descriptor", data := Data.fields #[Value.str (Str.ofString "__weakref__") 386, Value.ref 141, Value.builtin "ExceptionGroup.__weakref__", Value.none] }) ::
  (nat_lit 153, { cls := Value.type "tuple", data := Data.seq #[Value.int 1 405] }) ::
  (nat_lit 154, { cls := Value.type "tuple", data := Data.seq #[] }) ::
  (nat_lit 156, { cls := Value.type "tuple", data := Data.seq #[Value.str (Str.ofString "self") 409, Value.str (Str.ofString "irs") 410, Value.str (Str.ofString "ring") 411, Value.str (Str.ofString "room") 412, Value.str (Str.ofString "mss") 413] }) ::
  (nat_lit 157, { cls := Value.type "tuple", data := Data.seq #[] }) ::
  (nat_lit 159, { cls := Value.type "code", data := Data.fields #[Value.str (Str.ofString "__init__") 406, Value.str (Str.ofString "Receiver.__init__") 407, Value.str (Str.ofString "/claim/cut.py") 408, Value.int 116 0, Value.int 5 0, Value.int 0 0, Value.int 0 0, Value.int 3 0, Value.ref 154, Value.bool true, Value.int 181 0, Value.ref 155, Value.none, Value.ref 156, Value.ref 157, Value.ref 158, Value.int 414 0, Value.int 116 0, Value.str (Str.ofString "/claim/cut.py") 415] }) ::
  (nat_lit 160, { cls := Value.type "function", data := Data.func { name := Str.ofString "__init__", qualname := Str.ofString "Receiver.__init__", params := p160, body := FuncBody.stmts b160, scope := s160, globals := 3, closure := [], defaults := Value.ref 153, kwdefaults := Value.none, pyModule := Value.str (Str.ofString "thinstack.receiver") 391, code := Value.ref 159 } }) ::
  (nat_lit 161, { cls := Value.type "tuple", data := Data.seq #[] }) ::
  (nat_lit 163, { cls := Value.type "tuple", data := Data.seq #[Value.str (Str.ofString "self") 420] }) ::
  (nat_lit 164, { cls := Value.type "tuple", data := Data.seq #[] }) ::
  (nat_lit 166, { cls := Value.type "code", data := Data.fields #[Value.str (Str.ofString "free_edge") 417, Value.str (Str.ofString "Receiver.free_edge") 418, Value.str (Str.ofString "/claim/cut.py") 419, Value.int 128 0, Value.int 1 0, Value.int 0 0, Value.int 0 0, Value.int 3 0, Value.ref 161, Value.bool true, Value.int 181 0, Value.ref 162, Value.none, Value.ref 163, Value.ref 164, Value.ref 165, Value.int 421 0, Value.int 128 0, Value.str (Str.ofString "/claim/cut.py") 422] }) ::
  (nat_lit 167, { cls := Value.type "function", data := Data.func { name := Str.ofString "free_edge", qualname := Str.ofString "Receiver.free_edge", params := p167, body := FuncBody.stmts b167, scope := s167, globals := 3, closure := [], defaults := Value.none, kwdefaults := Value.none, pyModule := Value.str (Str.ofString "thinstack.receiver") 391, code := Value.ref 166 } }) ::
  (nat_lit 168, { cls := Value.type "tuple", data := Data.seq #[] }) ::
  (nat_lit 170, { cls := Value.type "tuple", data := Data.seq #[Value.str (Str.ofString "self") 427, Value.str (Str.ofString "mss") 428] }) ::
  (nat_lit 171, { cls := Value.type "tuple", data := Data.seq #[] }) ::
  (nat_lit 173, { cls := Value.type "code", data := Data.fields #[Value.str (Str.ofString "should_tell") 424, Value.str (Str.ofString "Receiver.should_tell") 425, Value.str (Str.ofString "/claim/cut.py") 426, Value.int 131 0, Value.int 2 0, Value.int 0 0, Value.int 0 0, Value.int 3 0, Value.ref 168, Value.bool true, Value.int 181 0, Value.ref 169, Value.none, Value.ref 170, Value.ref 171, Value.ref 172, Value.int 429 0, Value.int 131 0, Value.str (Str.ofString "/claim/cut.py") 430] }) ::
  (nat_lit 174, { cls := Value.type "function", data := Data.func { name := Str.ofString "should_tell", qualname := Str.ofString "Receiver.should_tell", params := p174, body := FuncBody.stmts b174, scope := s174, globals := 3, closure := [], defaults := Value.none, kwdefaults := Value.none, pyModule := Value.str (Str.ofString "thinstack.receiver") 391, code := Value.ref 173 } }) ::
  (nat_lit 175, { cls := Value.type "tuple", data := Data.seq #[] }) ::
  (nat_lit 177, { cls := Value.type "tuple", data := Data.seq #[Value.str (Str.ofString "self") 435] }) ::
  (nat_lit 178, { cls := Value.type "tuple", data := Data.seq #[] }) ::
  (nat_lit 180, { cls := Value.type "code", data := Data.fields #[Value.str (Str.ofString "told_window") 432, Value.str (Str.ofString "Receiver.told_window") 433, Value.str (Str.ofString "/claim/cut.py") 434, Value.int 136 0, Value.int 1 0, Value.int 0 0, Value.int 0 0, Value.int 3 0, Value.ref 175, Value.bool true, Value.int 181 0, Value.ref 176, Value.none, Value.ref 177, Value.ref 178, Value.ref 179, Value.int 436 0, Value.int 136 0, Value.str (Str.ofString "/claim/cut.py") 437] }) ::
  (nat_lit 181, { cls := Value.type "function", data := Data.func { name := Str.ofString "told_window", qualname := Str.ofString "Receiver.told_window", params := p181, body := FuncBody.stmts b181, scope := s181, globals := 3, closure := [], defaults := Value.none, kwdefaults := Value.none, pyModule := Value.str (Str.ofString "thinstack.receiver") 391, code := Value.ref 180 } }) ::
  (nat_lit 182, { cls := Value.type "tuple", data := Data.seq #[] }) ::
  (nat_lit 184, { cls := Value.type "tuple", data := Data.seq #[Value.str (Str.ofString "self") 442] }) ::
  (nat_lit 185, { cls := Value.type "tuple", data := Data.seq #[] }) ::
  (nat_lit 187, { cls := Value.type "code", data := Data.fields #[Value.str (Str.ofString "window") 439, Value.str (Str.ofString "Receiver.window") 440, Value.str (Str.ofString "/claim/cut.py") 441, Value.int 141 0, Value.int 1 0, Value.int 0 0, Value.int 0 0, Value.int 3 0, Value.ref 182, Value.bool true, Value.int 181 0, Value.ref 183, Value.none, Value.ref 184, Value.ref 185, Value.ref 186, Value.int 443 0, Value.int 141 0, Value.str (Str.ofString "/claim/cut.py") 444] }) ::
  (nat_lit 188, { cls := Value.type "function", data := Data.func { name := Str.ofString "window", qualname := Str.ofString "Receiver.window", params := p188, body := FuncBody.stmts b188, scope := s188, globals := 3, closure := [], defaults := Value.none, kwdefaults := Value.none, pyModule := Value.str (Str.ofString "thinstack.receiver") 391, code := Value.ref 187 } }) ::
  (nat_lit 189, { cls := Value.type "tuple", data := Data.seq #[] }) ::
  (nat_lit 191, { cls := Value.type "tuple", data := Data.seq #[Value.str (Str.ofString "self") 449, Value.str (Str.ofString "seq") 450, Value.str (Str.ofString "octets") 451, Value.str (Str.ofString "has_fin") 452, Value.str (Str.ofString "is_in_order") 453, Value.str (Str.ofString "kept") 454, Value.str (Str.ofString "fresh") 455] }) ::
  (nat_lit 192, { cls := Value.type "tuple", data := Data.seq #[] }) ::
  (nat_lit 194, { cls := Value.type "code", data := Data.fields #[Value.str (Str.ofString "arrive") 446, Value.str (Str.ofString "Receiver.arrive") 447, Value.str (Str.ofString "/claim/cut.py") 448, Value.int 146 0, Value.int 4 0, Value.int 0 0, Value.int 0 0, Value.int 3 0, Value.ref 189, Value.bool true, Value.int 181 0, Value.ref 190, Value.none, Value.ref 191, Value.ref 192, Value.ref 193, Value.int 456 0, Value.int 146 0, Value.str (Str.ofString "/claim/cut.py") 457] }) ::
  (nat_lit 195, { cls := Value.type "function", data := Data.func { name := Str.ofString "arrive", qualname := Str.ofString "Receiver.arrive", params := p195, body := FuncBody.stmts b195, scope := s195, globals := 3, closure := [], defaults := Value.none, kwdefaults := Value.none, pyModule := Value.str (Str.ofString "thinstack.receiver") 391, code := Value.ref 194 } }) ::
  (nat_lit 196, { cls := Value.type "tuple", data := Data.seq #[] }) ::
  (nat_lit 198, { cls := Value.type "tuple", data := Data.seq #[Value.str (Str.ofString "self") 462, Value.str (Str.ofString "seq") 463, Value.str (Str.ofString "octets") 464, Value.str (Str.ofString "most") 465] }) ::
  (nat_lit 199, { cls := Value.type "tuple", data := Data.seq #[] }) ::
  (nat_lit 201, { cls := Value.type "code", data := Data.fields #[Value.str (Str.ofString "let_in") 459, Value.str (Str.ofString "Receiver.let_in") 460, Value.str (Str.ofString "/claim/cut.py") 461, Value.int 158 0, Value.int 3 0, Value.int 0 0, Value.int 0 0, Value.int 3 0, Value.ref 196, Value.bool true, Value.int 181 0, Value.ref 197, Value.none, Value.ref 198, Value.ref 199, Value.ref 200, Value.int 466 0, Value.int 158 0, Value.str (Str.ofString "/claim/cut.py") 467] }) ::
  (nat_lit 202, { cls := Value.type "function", data := Data.func { name := Str.ofString "let_in", qualname := Str.ofString "Receiver.let_in", params := p202, body := FuncBody.stmts b202, scope := s202, globals := 3, closure := [], defaults := Value.none, kwdefaults := Value.none, pyModule := Value.str (Str.ofString "thinstack.receiver") 391, code := Value.ref 201 } }) ::
  (nat_lit 203, { cls := Value.type "tuple", data := Data.seq #[] }) ::
  (nat_lit 205, { cls := Value.type "tuple", data := Data.seq #[Value.str (Str.ofString "self") 472, Value.str (Str.ofString "place") 473] }) ::
  (nat_lit 206, { cls := Value.type "tuple", data := Data.seq #[] }) ::
  (nat_lit 208, { cls := Value.type "code", data := Data.fields #[Value.str (Str.ofString "note_fin") 469, Value.str (Str.ofString "Receiver.note_fin") 470, Value.str (Str.ofString "/claim/cut.py") 471, Value.int 164 0, Value.int 2 0, Value.int 0 0, Value.int 0 0, Value.int 3 0, Value.ref 203, Value.bool true, Value.int 181 0, Value.ref 204, Value.none, Value.ref 205, Value.ref 206, Value.ref 207, Value.int 474 0, Value.int 164 0, Value.str (Str.ofString "/claim/cut.py") 475] }) ::
  (nat_lit 209, { cls := Value.type "function", data := Data.func { name := Str.ofString "note_fin", qualname := Str.ofString "Receiver.note_fin", params := p209, body := FuncBody.stmts b209, scope := s209, globals := 3, closure := [], defaults := Value.none, kwdefaults := Value.none, pyModule := Value.str (Str.ofString "thinstack.receiver") 391, code := Value.ref 208 } }) ::
  (nat_lit 210, { cls := Value.type "tuple", data := Data.seq #[] }) ::
  (nat_lit 212, { cls := Value.type "tuple", data := Data.seq #[Value.str (Str.ofString "self") 480, Value.str (Str.ofString "seq") 481, Value.str (Str.ofString "octets") 482] }) ::
  (nat_lit 213, { cls := Value.type "tuple", data := Data.seq #[] }) ::
  (nat_lit 215, { cls := Value.type "code", data := Data.fields #[Value.str (Str.ofString "ahead_of_fin") 477, Value.str (Str.ofString "Receiver.ahead_of_fin") 478, Value.str (Str.ofString "/claim/cut.py") 479, Value.int 169 0, Value.int 3 0, Value.int 0 0, Value.int 0 0, Value.int 3 0, Value.ref 210, Value.bool true, Value.int 181 0, Value.ref 211, Value.none, Value.ref 212, Value.ref 213, Value.ref 214, Value.int 483 0, Value.int 169 0, Value.str (Str.ofString "/claim/cut.py") 484] }) ::
  (nat_lit 216, { cls := Value.type "function", data := Data.func { name := Str.ofString "ahead_of_fin", qualname := Str.ofString "Receiver.ahead_of_fin", params := p216, body := FuncBody.stmts b216, scope := s216, globals := 3, closure := [], defaults := Value.none, kwdefaults := Value.none, pyModule := Value.str (Str.ofString "thinstack.receiver") 391, code := Value.ref 215 } }) ::
  (nat_lit 217, { cls := Value.type "tuple", data := Data.seq #[] }) ::
  (nat_lit 219, { cls := Value.type "tuple", data := Data.seq #[Value.str (Str.ofString "self") 489, Value.str (Str.ofString "fresh") 490] }) ::
  (nat_lit 220, { cls := Value.type "tuple", data := Data.seq #[] }) ::
  (nat_lit 222, { cls := Value.type "code", data := Data.fields #[Value.str (Str.ofString "gather") 486, Value.str (Str.ofString "Receiver.gather") 487, Value.str (Str.ofString "/claim/cut.py") 488, Value.int 174 0, Value.int 1 0, Value.int 0 0, Value.int 0 0, Value.int 3 0, Value.ref 217, Value.bool true, Value.int 181 0, Value.ref 218, Value.none, Value.ref 219, Value.ref 220, Value.ref 221, Value.int 491 0, Value.int 174 0, Value.str (Str.ofString "/claim/cut.py") 492] }) ::
  (nat_lit 223, { cls := Value.type "function", data := Data.func { name := Str.ofString "gather", qualname := Str.ofString "Receiver.gather", params := p223, body := FuncBody.stmts b223, scope := s223, globals := 3, closure := [], defaults := Value.none, kwdefaults := Value.none, pyModule := Value.str (Str.ofString "thinstack.receiver") 391, code := Value.ref 222 } }) ::
  (nat_lit 224, { cls := Value.type "tuple", data := Data.seq #[] }) ::
  (nat_lit 226, { cls := Value.type "tuple", data := Data.seq #[Value.str (Str.ofString "self") 497] }) ::
  (nat_lit 227, { cls := Value.type "tuple", data := Data.seq #[] }) ::
  (nat_lit 229, { cls := Value.type "code", data := Data.fields #[Value.str (Str.ofString "has_holes") 494, Value.str (Str.ofString "Receiver.has_holes") 495, Value.str (Str.ofString "/claim/cut.py") 496, Value.int 185 0, Value.int 1 0, Value.int 0 0, Value.int 0 0, Value.int 3 0, Value.ref 224, Value.bool true, Value.int 181 0, Value.ref 225, Value.none, Value.ref 226, Value.ref 227, Value.ref 228, Value.int 498 0, Value.int 185 0, Value.str (Str.ofString "/claim/cut.py") 499] }) ::
  (nat_lit 230, { cls := Value.type "function", data := Data.func { name := Str.ofString "has_holes", qualname := Str.ofString "Receiver.has_holes", params := p230, body := FuncBody.stmts b230, scope := s230, globals := 3, closure := [], defaults := Value.none, kwdefaults := Value.none, pyModule := Value.str (Str.ofString "thinstack.receiver") 391, code := Value.ref 229 } }) ::
  (nat_lit 231, { cls := Value.type "tuple", data := Data.seq #[] }) ::
  (nat_lit 233, { cls := Value.type "tuple", data := Data.seq #[Value.str (Str.ofString "self") 504] }) ::
  (nat_lit 234, { cls := Value.type "tuple", data := Data.seq #[] }) ::
  (nat_lit 236, { cls := Value.type "code", data := Data.fields #[Value.str (Str.ofString "available") 501, Value.str (Str.ofString "Receiver.available") 502, Value.str (Str.ofString "/claim/cut.py") 503, Value.int 188 0, Value.int 1 0, Value.int 0 0, Value.int 0 0, Value.int 3 0, Value.ref 231, Value.bool true, Value.int 181 0, Value.ref 232, Value.none, Value.ref 233, Value.ref 234, Value.ref 235, Value.int 505 0, Value.int 188 0, Value.str (Str.ofString "/claim/cut.py") 506] }) ::
  (nat_lit 237, { cls := Value.type "function", data := Data.func { name := Str.ofString "available", qualname := Str.ofString "Receiver.available", params := p237, body := FuncBody.stmts b237, scope := s237, globals := 3, closure := [], defaults := Value.none, kwdefaults := Value.none, pyModule := Value.str (Str.ofString "thinstack.receiver") 391, code := Value.ref 236 } }) ::
  (nat_lit 238, { cls := Value.type "tuple", data := Data.seq #[] }) ::
  (nat_lit 240, { cls := Value.type "tuple", data := Data.seq #[Value.str (Str.ofString "self") 511, Value.str (Str.ofString "many") 512, Value.str (Str.ofString "found") 513] }) ::
  (nat_lit 241, { cls := Value.type "tuple", data := Data.seq #[] }) ::
  (nat_lit 243, { cls := Value.type "code", data := Data.fields #[Value.str (Str.ofString "read") 508, Value.str (Str.ofString "Receiver.read") 509, Value.str (Str.ofString "/claim/cut.py") 510, Value.int 191 0, Value.int 2 0, Value.int 0 0, Value.int 0 0, Value.int 3 0, Value.ref 238, Value.bool true, Value.int 181 0, Value.ref 239, Value.none, Value.ref 240, Value.ref 241, Value.ref 242, Value.int 514 0, Value.int 191 0, Value.str (Str.ofString "/claim/cut.py") 515] }) ::
  (nat_lit 244, { cls := Value.type "function", data := Data.func { name := Str.ofString "read", qualname := Str.ofString "Receiver.read", params := p244, body := FuncBody.stmts b244, scope := s244, globals := 3, closure := [], defaults := Value.none, kwdefaults := Value.none, pyModule := Value.str (Str.ofString "thinstack.receiver") 391, code := Value.ref 243 } }) ::
  (nat_lit 245, { cls := Value.type "tuple", data := Data.seq #[] }) ::
  (nat_lit 247, { cls := Value.type "tuple", data := Data.seq #[Value.str (Str.ofString "self") 520] }) ::
  (nat_lit 248, { cls := Value.type "tuple", data := Data.seq #[] }) ::
  (nat_lit 250, { cls := Value.type "code", data := Data.fields #[Value.str (Str.ofString "is_over") 517, Value.str (Str.ofString "Receiver.is_over") 518, Value.str (Str.ofString "/claim/cut.py") 519, Value.int 196 0, Value.int 1 0, Value.int 0 0, Value.int 0 0, Value.int 3 0, Value.ref 245, Value.bool true, Value.int 181 0, Value.ref 246, Value.none, Value.ref 247, Value.ref 248, Value.ref 249, Value.int 521 0, Value.int 196 0, Value.str (Str.ofString "/claim/cut.py") 522] }) ::
  (nat_lit 251, { cls := Value.type "function", data := Data.func { name := Str.ofString "is_over", qualname := Str.ofString "Receiver.is_over", params := p251, body := FuncBody.stmts b251, scope := s251, globals := 3, closure := [], defaults := Value.none, kwdefaults := Value.none, pyModule := Value.str (Str.ofString "thinstack.receiver") 391, code := Value.ref 250 } }) ::
  (nat_lit 252, { cls := Value.type "tuple", data := Data.seq #[] }) ::
  (nat_lit 254, { cls := Value.type "tuple", data := Data.seq #[Value.str (Str.ofString "self") 527, Value.str (Str.ofString "behind") 528] }) ::
  (nat_lit 255, { cls := Value.type "tuple", data := Data.seq #[] }) ::
  (nat_lit 257, { cls := Value.type "code", data := Data.fields #[Value.str (Str.ofString "read_place") 524, Value.str (Str.ofString "Receiver.read_place") 525, Value.str (Str.ofString "/claim/cut.py") 526, Value.int 199 0, Value.int 1 0, Value.int 0 0, Value.int 0 0, Value.int 3 0, Value.ref 252, Value.bool true, Value.int 181 0, Value.ref 253, Value.none, Value.ref 254, Value.ref 255, Value.ref 256, Value.int 529 0, Value.int 199 0, Value.str (Str.ofString "/claim/cut.py") 530] }) ::
  (nat_lit 258, { cls := Value.type "function", data := Data.func { name := Str.ofString "read_place", qualname := Str.ofString "Receiver.read_place", params := p258, body := FuncBody.stmts b258, scope := s258, globals := 3, closure := [], defaults := Value.none, kwdefaults := Value.none, pyModule := Value.str (Str.ofString "thinstack.receiver") 391, code := Value.ref 257 } }) ::
  (nat_lit 259, { cls := Value.type "tuple", data := Data.seq #[] }) ::
  (nat_lit 261, { cls := Value.type "tuple", data := Data.seq #[Value.str (Str.ofString "self") 535, Value.str (Str.ofString "pointer") 536] }) ::
  (nat_lit 262, { cls := Value.type "tuple", data := Data.seq #[] }) ::
  (nat_lit 264, { cls := Value.type "code", data := Data.fields #[Value.str (Str.ofString "urgent") 532, Value.str (Str.ofString "Receiver.urgent") 533, Value.str (Str.ofString "/claim/cut.py") 534, Value.int 203 0, Value.int 2 0, Value.int 0 0, Value.int 0 0, Value.int 3 0, Value.ref 259, Value.bool true, Value.int 181 0, Value.ref 260, Value.none, Value.ref 261, Value.ref 262, Value.ref 263, Value.int 537 0, Value.int 203 0, Value.str (Str.ofString "/claim/cut.py") 538] }) ::
  (nat_lit 265, { cls := Value.type "function", data := Data.func { name := Str.ofString "urgent", qualname := Str.ofString "Receiver.urgent", params := p265, body := FuncBody.stmts b265, scope := s265, globals := 3, closure := [], defaults := Value.none, kwdefaults := Value.none, pyModule := Value.str (Str.ofString "thinstack.receiver") 391, code := Value.ref 264 } }) ::
  (nat_lit 266, { cls := Value.type "tuple", data := Data.seq #[] }) ::
  (nat_lit 268, { cls := Value.type "tuple", data := Data.seq #[Value.str (Str.ofString "self") 543, Value.str (Str.ofString "place") 544] }) ::
  (nat_lit 269, { cls := Value.type "tuple", data := Data.seq #[] }) ::
  (nat_lit 271, { cls := Value.type "code", data := Data.fields #[Value.str (Str.ofString "urgent_left") 540, Value.str (Str.ofString "Receiver.urgent_left") 541, Value.str (Str.ofString "/claim/cut.py") 542, Value.int 208 0, Value.int 1 0, Value.int 0 0, Value.int 0 0, Value.int 3 0, Value.ref 266, Value.bool true, Value.int 181 0, Value.ref 267, Value.none, Value.ref 268, Value.ref 269, Value.ref 270, Value.int 545 0, Value.int 208 0, Value.str (Str.ofString "/claim/cut.py") 546] }) ::
  (nat_lit 272, { cls := Value.type "function", data := Data.func { name := Str.ofString "urgent_left", qualname := Str.ofString "Receiver.urgent_left", params := p272, body := FuncBody.stmts b272, scope := s272, globals := 3, closure := [], defaults := Value.none, kwdefaults := Value.none, pyModule := Value.str (Str.ofString "thinstack.receiver") 391, code := Value.ref 271 } }) ::
  (nat_lit 273, { cls := Value.type "tuple", data := Data.seq #[Value.str (Str.ofString "assembly") 548, Value.str (Str.ofString "fin_at") 549, Value.str (Str.ofString "has_fin") 550, Value.str (Str.ofString "mss") 551, Value.str (Str.ofString "next") 552, Value.str (Str.ofString "ready") 553, Value.str (Str.ofString "ring") 554, Value.str (Str.ofString "room") 555, Value.str (Str.ofString "told_edge") 556, Value.str (Str.ofString "urgent_at") 557] }) ::
  (nat_lit 274, { cls := Value.type "dict", data := Data.dict #[{ hash := PyData.keyHash P (Str.ofString "__module__"), key := Value.str (Str.ofString "__module__") 400, val := Value.str (Str.ofString "thinstack.receiver") 391 }, { hash := PyData.keyHash P (Str.ofString "__firstlineno__"), key := Value.str (Str.ofString "__firstlineno__") 404, val := Value.int 114 403 }, { hash := PyData.keyHash P (Str.ofString "__init__"), key := Value.str (Str.ofString "__init__") 416, val := Value.ref 160 }, { hash := PyData.keyHash P (Str.ofString "free_edge"), key := Value.str (Str.ofString "free_edge") 423, val := Value.ref 167 }, { hash := PyData.keyHash P (Str.ofString "should_tell"), key := Value.str (Str.ofString "should_tell") 431, val := Value.ref 174 }, { hash := PyData.keyHash P (Str.ofString "told_window"), key := Value.str (Str.ofString "told_window") 438, val := Value.ref 181 }, { hash := PyData.keyHash P (Str.ofString "window"), key := Value.str (Str.ofString "window") 445, val := Value.ref 188 }, { hash := PyData.keyHash P (Str.ofString "arrive"), key := Value.str (Str.ofString "arrive") 458, val := Value.ref 195 }, { hash := PyData.keyHash P (Str.ofString "let_in"), key := Value.str (Str.ofString "let_in") 468, val := Value.ref 202 }, { hash := PyData.keyHash P (Str.ofString "note_fin"), key := Value.str (Str.ofString "note_fin") 476, val := Value.ref 209 }, { hash := PyData.keyHash P (Str.ofString "ahead_of_fin"), key := Value.str (Str.ofString "ahead_of_fin") 485, val := Value.ref 216 }, { hash := PyData.keyHash P (Str.ofString "gather"), key := Value.str (Str.ofString "gather") 493, val := Value.ref 223 }, { hash := PyData.keyHash P (Str.ofString "has_holes"), key := Value.str (Str.ofString "has_holes") 500, val := Value.ref 230 }, { hash := PyData.keyHash P (Str.ofString "available"), key := Value.str (Str.ofString "available") 507, val := Value.ref 237 }, { hash := PyData.keyHash P (Str.ofString "read"), key := Value.str (Str.ofString "read") 516, val := Value.ref 244 }, { hash := PyData.keyHash P (Str.ofString "is_over"), key := Value.str (Str.ofString "is_over") 523, val := Value.ref 251 }, { hash := PyData.keyHash P (Str.ofString "read_place"), key := Value.str (Str.ofString "read_place") 531, val := Value.ref 258 }, { hash := PyData.keyHash P (Str.ofString "urgent"), key := Value.str (Str.ofString "urgent") 539, val := Value.ref 265 }, { hash := PyData.keyHash P (Str.ofString "urgent_left"), key := Value.str (Str.ofString "urgent_left") 547, val := Value.ref 272 }, { hash := PyData.keyHash P (Str.ofString "__static_attributes__"), key := Value.str (Str.ofString "__static_attributes__") 558, val := Value.ref 273 }, { hash := PyData.keyHash P (Str.ofString "__dict__"), key := Value.str (Str.ofString "__dict__") 560, val := Value.ref 276 }, { hash := PyData.keyHash P (Str.ofString "__weakref__"), key := Value.str (Str.ofString "__weakref__") 562, val := Value.ref 277 }, { hash := PyData.keyHash P (Str.ofString "__doc__"), key := Value.str (Str.ofString "__doc__") 563, val := Value.none }] 4 }) ::
  (nat_lit 275, { cls := Value.type "type", data := Data.cls { name := Str.ofString "Receiver", bases := [Value.type "object"], mro := [Value.ref 275, Value.type "object"], ns := 274, qualname := Str.ofString "Receiver" }, slots := #[none, none, some (Value.str (Str.ofString "Receiver") 393), some (Value.str (Str.ofString "Receiver") 401), some (Value.builtin "object.__new__"), some (Value.bool true)] }) ::
  (nat_lit 276, { cls := Value.type "getset_descriptor", data := Data.fields #[Value.str (Str.ofString "__dict__") 559, Value.ref 275, Value.builtin "function.__dict__", Value.builtin "function.__dict__#set"] }) ::
  (nat_lit 277, { cls := Value.type "getset_descriptor", data := Data.fields #[Value.str (Str.ofString "__weakref__") 561, Value.ref 275, Value.builtin "ExceptionGroup.__weakref__", Value.none] }) ::
  (nat_lit 280, { cls := Value.type "tuple", data := Data.seq #[] }) ::
  (nat_lit 282, { cls := Value.type "tuple", data := Data.seq #[Value.str (Str.ofString "script") 571, Value.str (Str.ofString "row") 572, Value.str (Str.ofString "cell") 573, Value.str (Str.ofString "big") 574, Value.str (Str.ofString "blend") 575] }) ::
  (nat_lit 283, { cls := Value.type "tuple", data := Data.seq #[] }) ::
  (nat_lit 285, { cls := Value.type "code", data := Data.fields #[Value.str (Str.ofString "_law_pool") 568, Value.str (Str.ofString "_law_pool") 569, Value.str (Str.ofString "/claim/cut.py") 570, Value.int 217 0, Value.int 2 0, Value.int 0 0, Value.int 0 0, Value.int 3 0, Value.ref 280, Value.bool true, Value.int 181 0, Value.ref 281, Value.none, Value.ref 282, Value.ref 283, Value.ref 284, Value.int 576 0, Value.int 217 0, Value.str (Str.ofString "/claim/cut.py") 577] }) ::
  (nat_lit 286, { cls := Value.type "function", data := Data.func { name := Str.ofString "_law_pool", qualname := Str.ofString "_law_pool", params := p286, body := FuncBody.stmts b286, scope := s286, globals := 3, closure := [], defaults := Value.none, kwdefaults := Value.none, pyModule := Value.str (Str.ofString "law_on0345_01") 566, code := Value.ref 285 } }) ::
  (nat_lit 287, { cls := Value.type "tuple", data := Data.seq #[] }) ::
  (nat_lit 289, { cls := Value.type "tuple", data := Data.seq #[Value.str (Str.ofString "source") 582, Value.str (Str.ofString "top") 583, Value.str (Str.ofString "figure") 584] }) ::
  (nat_lit 290, { cls := Value.type "tuple", data := Data.seq #[] }) ::
  (nat_lit 292, { cls := Value.type "code", data := Data.fields #[Value.str (Str.ofString "_law_take") 579, Value.str (Str.ofString "_law_take") 580, Value.str (Str.ofString "/claim/cut.py") 581, Value.int 222 0, Value.int 2 0, Value.int 0 0, Value.int 0 0, Value.int 3 0, Value.ref 287, Value.bool true, Value.int 181 0, Value.ref 288, Value.none, Value.ref 289, Value.ref 290, Value.ref 291, Value.int 585 0, Value.int 222 0, Value.str (Str.ofString "/claim/cut.py") 586] }) ::
  (nat_lit 293, { cls := Value.type "function", data := Data.func { name := Str.ofString "_law_take", qualname := Str.ofString "_law_take", params := p293, body := FuncBody.stmts b293, scope := s293, globals := 3, closure := [], defaults := Value.none, kwdefaults := Value.none, pyModule := Value.str (Str.ofString "law_on0345_01") 566, code := Value.ref 292 } }) ::
  (nat_lit 301, { cls := Value.type "tuple", data := Data.seq #[] }) ::
  (nat_lit 304, { cls := Value.type "code", data := Data.fields #[Value.str (Str.ofString "_law_arrived") 596, Value.str (Str.ofString "_law_arrived") 597, Value.str (Str.ofString "/claim/cut.py") 598, Value.int 233 0, Value.int 4 0, Value.int 0 0, Value.int 0 0, Value.int 3 0, Value.ref 301, Value.bool true, Value.int 181 0, Value.ref 302, Value.none, Value.none, Value.none, Value.ref 303, Value.int 599 0, Value.int 233 0, Value.str (Str.ofString "/claim/cut.py") 600] }) ::
  (nat_lit 305, { cls := Value.type "function", data := Data.func { name := Str.ofString "_law_arrived", qualname := Str.ofString "_law_arrived", params := p305, body := FuncBody.stmts b305, scope := s305, globals := 3, closure := [], defaults := Value.none, kwdefaults := Value.none, pyModule := Value.str (Str.ofString "law_on0345_01") 566, code := Value.ref 304 } }) ::
  (nat_lit 306, { cls := Value.type "tuple", data := Data.seq #[] }) ::
  (nat_lit 308, { cls := Value.type "tuple", data := Data.seq #[Value.str (Str.ofString "receiver") 605, Value.str (Str.ofString "book") 606, Value.str (Str.ofString "base") 607, Value.str (Str.ofString "ring") 608, Value.str (Str.ofString "room") 609, Value.str (Str.ofString "number") 610, Value.str (Str.ofString "left") 611, Value.str (Str.ofString "told") 612] }) ::
  (nat_lit 309, { cls := Value.type "tuple", data := Data.seq #[] }) ::
  (nat_lit 311, { cls := Value.type "code", data := Data.fields #[Value.str (Str.ofString "_law_stands") 602, Value.str (Str.ofString "_law_stands") 603, Value.str (Str.ofString "/claim/cut.py") 604, Value.int 249 0, Value.int 5 0, Value.int 0 0, Value.int 0 0, Value.int 3 0, Value.ref 306, Value.bool true, Value.int 181 0, Value.ref 307, Value.none, Value.ref 308, Value.ref 309, Value.ref 310, Value.int 613 0, Value.int 249 0, Value.str (Str.ofString "/claim/cut.py") 614] }) ::
  (nat_lit 312, { cls := Value.type "function", data := Data.func { name := Str.ofString "_law_stands", qualname := Str.ofString "_law_stands", params := p312, body := FuncBody.stmts b312, scope := s312, globals := 3, closure := [], defaults := Value.none, kwdefaults := Value.none, pyModule := Value.str (Str.ofString "law_on0345_01") 566, code := Value.ref 311 } }) ::
  (nat_lit 313, { cls := Value.type "tuple", data := Data.seq #[] }) ::
  (nat_lit 316, { cls := Value.type "code", data := Data.fields #[Value.str (Str.ofString "_law_read_right") 616, Value.str (Str.ofString "_law_read_right") 617, Value.str (Str.ofString "/claim/cut.py") 618, Value.int 260 0, Value.int 3 0, Value.int 0 0, Value.int 0 0, Value.int 3 0, Value.ref 313, Value.bool true, Value.int 181 0, Value.ref 314, Value.none, Value.none, Value.none, Value.ref 315, Value.int 619 0, Value.int 260 0, Value.str (Str.ofString "/claim/cut.py") 620] }) ::
  (nat_lit 317, { cls := Value.type "function", data := Data.func { name := Str.ofString "_law_read_right", qualname := Str.ofString "_law_read_right", params := p317, body := FuncBody.stmts b317, scope := s317, globals := 3, closure := [], defaults := Value.none, kwdefaults := Value.none, pyModule := Value.str (Str.ofString "law_on0345_01") 566, code := Value.ref 316 } }) ::
  (nat_lit 318, { cls := Value.type "tuple", data := Data.seq #[] }) ::
  (nat_lit 321, { cls := Value.type "code", data := Data.fields #[Value.str (Str.ofString "law") 622, Value.str (Str.ofString "law") 623, Value.str (Str.ofString "/claim/cut.py") 624, Value.int 265 0, Value.int 1 0, Value.int 0 0, Value.int 0 0, Value.int 3 0, Value.ref 318, Value.bool true, Value.int 181 0, Value.ref 319, Value.none, Value.none, Value.none, Value.ref 320, Value.int 625 0, Value.int 265 0, Value.str (Str.ofString "/claim/cut.py") 626] }) ::
  (nat_lit 322, { cls := Value.type "function", data := Data.func { name := Str.ofString "law", qualname := Str.ofString "law", params := p322, body := FuncBody.stmts b322, scope := s322, globals := 3, closure := [], defaults := Value.none, kwdefaults := Value.none, pyModule := Value.str (Str.ofString "law_on0345_01") 566, code := Value.ref 321 } }) :: []
noncomputable def hd.view_39 : Program := { PySem.Challenge.pw_on0345_01 with main := { PySem.Challenge.pw_on0345_01.main with body := [litOf (show stS 0 = _ by conv => lhs; whnf), litOf (show stS 2 = _ by conv => lhs; whnf), litOf (show stS 3 = _ by conv => lhs; whnf), litOf (show stS 4 = _ by conv => lhs; whnf), litOf (show stS 5 = _ by conv => lhs; whnf), litOf (show stS 7 = _ by conv => lhs; whnf), litOf (show stS 9 = _ by conv => lhs; whnf), litOf (show stS 11 = _ by conv => lhs; whnf), litOf (show stS 12 = _ by conv => lhs; whnf), litOf (show stS 13 = _ by conv => lhs; whnf), litOf (show stS 14 = _ by conv => lhs; whnf), litOf (show stS 15 = _ by conv => lhs; whnf), litOf (show stS 16 = _ by conv => lhs; whnf), litOf (show stS 17 = _ by conv => lhs; whnf)] } }
noncomputable abbrev addrs : List Addr := [2, 3, 15, 17, 18, 20, 21, 22, 24, 25, 27, 28, 29, 31, 32, 34, 35, 36, 38, 39, 41, 42, 43, 45, 46, 48, 49, 57, 59, 60, 62, 63, 64, 67, 68, 69, 71, 72, 74, 75, 76, 78, 79, 81, 82, 83, 85, 86, 88, 89, 90, 92, 93, 95, 96, 97, 99, 100, 102, 103, 104, 106, 107, 109, 110, 111, 113, 114, 116, 117, 118, 120, 121, 123, 124, 125, 127, 128, 130, 131, 132, 134, 135, 137, 138, 139, 140, 141, 142, 143, 153, 154, 156, 157, 159, 160, 161, 163, 164, 166, 167, 168, 170, 171, 173, 174, 175, 177, 178, 180, 181, 182, 184, 185, 187, 188, 189, 191, 192, 194, 195, 196, 198, 199, 201, 202, 203, 205, 206, 208, 209, 210, 212, 213, 215, 216, 217, 219, 220, 222, 223, 224, 226, 227, 229, 230, 231, 233, 234, 236, 237, 238, 240, 241, 243, 244, 245, 247, 248, 250, 251, 252, 254, 255, 257, 258, 259, 261, 262, 264, 265, 266, 268, 269, 271, 272, 273, 274, 275, 276, 277, 280, 282, 283, 285, 286, 287, 289, 290, 292, 293, 301, 304, 305, 306, 308, 309, 311, 312, 313, 316, 317, 318, 321, 322]
noncomputable abbrev hk : Hook := kHook hd.heap_39 addrs (fun _ => by kernel_rfl)
abbrev rowL : OpenRow := PySem.Challenge.rw_on0345_01.row
noncomputable abbrev lookL (s : Shared) : Bool := xlAt hd.view_39 [] s && recOk (RowW.records rowL.toRowW) s
/-! The states between the pieces of the text's top, printed by wip/tools/PK2.lean and mkpieces.py. -/
noncomputable abbrev b0 : List Stmt := litOf (show bodyS (stS 13) = _ by conv => lhs; whnf)
noncomputable abbrev p0 : Arguments := litOf (show parS (stS 13) = _ by conv => lhs; whnf)
noncomputable abbrev s0 : Scope := litOf (show scoS (stS 13) = _ by conv => lhs; whnf)
noncomputable abbrev bn := BT.node
noncomputable abbrev bx := BT.nil
noncomputable def ho43 (P : Params) : Obj := { cls := Value.type "tuple", data := Data.seq #[] }
noncomputable def ho45 (P : Params) : Obj := { cls := Value.type "code", data := Data.fields #[Value.str (Str.ofString "<module>") 182, Value.str (Str.ofString "<module>") 183, Value.str (Str.ofString "/claim/cut.py") 184, Value.int 1 0, Value.int 0 0, Value.int 0 0, Value.int 0 0, Value.int 0 0, Value.ref 11, Value.bool false, Value.int 181 0, Value.ref 12, Value.none, Value.none, Value.none, Value.none, Value.int 185 0, Value.int 1 0, Value.str (Str.ofString "/claim/cut.py") 186] }
noncomputable def ho44 (P : Params) : Obj := { cls := Value.none, data := Data.fields #[] }
noncomputable def ho46 (P : Params) : Obj := { cls := Value.type "frame", slots := #[some (Value.ref 13), some (Value.ref 3), some (Value.ref 3), none, some (Value.str (Str.ofString "__main__") 164), none, some (Value.ref 0)] }
noncomputable def ho49 (P : Params) : Obj := { cls := Value.type "dict", data := Data.dict #[{ hash := PyData.keyHash P (Str.ofString "__name__"), key := Value.str (Str.ofString "__name__") 165, val := Value.str (Str.ofString "thinstack.assembly") 233 }, { hash := PyData.keyHash P (Str.ofString "__doc__"), key := Value.str (Str.ofString "__doc__") 166, val := Value.none }, { hash := PyData.keyHash P (Str.ofString "__package__"), key := Value.str (Str.ofString "__package__") 167, val := Value.none }, { hash := PyData.keyHash P (Str.ofString "__loader__"), key := Value.str (Str.ofString "__loader__") 168, val := Value.builtin "__main__.__loader__#opaque" }, { hash := PyData.keyHash P (Str.ofString "__spec__"), key := Value.str (Str.ofString "__spec__") 169, val := Value.none }, { hash := PyData.keyHash P (Str.ofString "__annotations__"), key := Value.str (Str.ofString "__annotations__") 170, val := Value.ref 6 }, { hash := PyData.keyHash P (Str.ofString "__builtins__"), key := Value.str (Str.ofString "__builtins__") 171, val := Value.ref 4 }, { hash := PyData.keyHash P (Str.ofString "__file__"), key := Value.str (Str.ofString "__file__") 173, val := Value.str (Str.ofString "/claim/cut.py") 172 }, { hash := PyData.keyHash P (Str.ofString "__cached__"), key := Value.str (Str.ofString "__cached__") 174, val := Value.none }, { hash := PyData.keyHash P (Str.ofString "_wall"), key := Value.str (Str.ofString "_wall") 193, val := Value.ref 21 }, { hash := PyData.keyHash P (Str.ofString "plus"), key := Value.str (Str.ofString "plus") 204, val := Value.ref 28 }, { hash := PyData.keyHash P (Str.ofString "distance"), key := Value.str (Str.ofString "distance") 213, val := Value.ref 35 }, { hash := PyData.keyHash P (Str.ofString "is_before"), key := Value.str (Str.ofString "is_before") 223, val := Value.ref 42 }, { hash := PyData.keyHash P (Str.ofString "is_at_most"), key := Value.str (Str.ofString "is_at_most") 232, val := Value.ref 49 }] 14 }
noncomputable def ho51 (P : Params) : Obj := { cls := Value.type "tuple", data := Data.seq #[] }
noncomputable def ho67 (P : Params) : Obj := { cls := Value.type "tuple", data := Data.seq #[Value.str (Str.ofString "a") 208, Value.str (Str.ofString "b") 209, Value.str (Str.ofString "ring") 210] }
noncomputable def ho83 (P : Params) : Obj := { cls := Value.none, data := Data.func { name := Str.ofString "is_at_most", qualname := Str.ofString "is_at_most", params := p49, body := FuncBody.stmts b49, scope := s49, globals := 0, closure := [], defaults := Value.none, kwdefaults := Value.none } }
noncomputable def ho59 (P : Params) : Obj := { cls := Value.none, data := Data.fields #[] }
noncomputable def ho75 (P : Params) : Obj := { cls := Value.type "tuple", data := Data.seq #[] }
noncomputable def ho55 (P : Params) : Obj := { cls := Value.none, data := Data.func { name := Str.ofString "_wall", qualname := Str.ofString "_wall", params := p21, body := FuncBody.stmts b21, scope := s21, globals := 0, closure := [], defaults := Value.none, kwdefaults := Value.none } }
noncomputable def ho71 (P : Params) : Obj := { cls := Value.type "function", data := Data.func { name := Str.ofString "distance", qualname := Str.ofString "distance", params := p35, body := FuncBody.stmts b35, scope := s35, globals := 3, closure := [], defaults := Value.none, kwdefaults := Value.none, pyModule := Value.str (Str.ofString "thinstack.sequence") 194, code := Value.ref 34 } }
noncomputable def ho63 (P : Params) : Obj := { cls := Value.type "code", data := Data.fields #[Value.str (Str.ofString "plus") 196, Value.str (Str.ofString "plus") 197, Value.str (Str.ofString "/claim/cut.py") 198, Value.int 5 0, Value.int 3 0, Value.int 0 0, Value.int 0 0, Value.int 3 0, Value.ref 22, Value.bool true, Value.int 181 0, Value.ref 23, Value.none, Value.ref 24, Value.ref 25, Value.ref 26, Value.int 202 0, Value.int 5 0, Value.str (Str.ofString "/claim/cut.py") 203] }
noncomputable def ho79 (P : Params) : Obj := { cls := Value.type "tuple", data := Data.seq #[] }
noncomputable def ho53 (P : Params) : Obj := { cls := Value.type "tuple", data := Data.seq #[Value.str (Str.ofString "k") 190] }
noncomputable def ho69 (P : Params) : Obj := { cls := Value.none, data := Data.func { name := Str.ofString "distance", qualname := Str.ofString "distance", params := p35, body := FuncBody.stmts b35, scope := s35, globals := 0, closure := [], defaults := Value.none, kwdefaults := Value.none } }
noncomputable def ho85 (P : Params) : Obj := { cls := Value.type "function", data := Data.func { name := Str.ofString "is_at_most", qualname := Str.ofString "is_at_most", params := p49, body := FuncBody.stmts b49, scope := s49, globals := 3, closure := [], defaults := Value.none, kwdefaults := Value.none, pyModule := Value.str (Str.ofString "thinstack.sequence") 194, code := Value.ref 48 } }
noncomputable def ho61 (P : Params) : Obj := { cls := Value.type "tuple", data := Data.seq #[] }
noncomputable def ho77 (P : Params) : Obj := { cls := Value.type "code", data := Data.fields #[Value.str (Str.ofString "is_before") 214, Value.str (Str.ofString "is_before") 215, Value.str (Str.ofString "/claim/cut.py") 216, Value.int 9 0, Value.int 3 0, Value.int 0 0, Value.int 0 0, Value.int 3 0, Value.ref 36, Value.bool true, Value.int 181 0, Value.ref 37, Value.none, Value.ref 38, Value.ref 39, Value.ref 40, Value.int 221 0, Value.int 9 0, Value.str (Str.ofString "/claim/cut.py") 222] }
noncomputable def ho57 (P : Params) : Obj := { cls := Value.type "function", data := Data.func { name := Str.ofString "_wall", qualname := Str.ofString "_wall", params := p21, body := FuncBody.stmts b21, scope := s21, globals := 3, closure := [], defaults := Value.none, kwdefaults := Value.none, pyModule := Value.str (Str.ofString "__main__") 164, code := Value.ref 20 } }
noncomputable def ho73 (P : Params) : Obj := { cls := Value.none, data := Data.fields #[] }
noncomputable def ho65 (P : Params) : Obj := { cls := Value.type "tuple", data := Data.seq #[] }
noncomputable def ho81 (P : Params) : Obj := { cls := Value.type "tuple", data := Data.seq #[Value.str (Str.ofString "a") 227, Value.str (Str.ofString "b") 228, Value.str (Str.ofString "ring") 229] }
noncomputable def ho52 (P : Params) : Obj := { cls := Value.none, data := Data.fields #[] }
noncomputable def ho68 (P : Params) : Obj := { cls := Value.type "tuple", data := Data.seq #[] }
noncomputable def ho84 (P : Params) : Obj := { cls := Value.type "code", data := Data.fields #[Value.str (Str.ofString "is_at_most") 224, Value.str (Str.ofString "is_at_most") 225, Value.str (Str.ofString "/claim/cut.py") 226, Value.int 12 0, Value.int 3 0, Value.int 0 0, Value.int 0 0, Value.int 3 0, Value.ref 43, Value.bool true, Value.int 181 0, Value.ref 44, Value.none, Value.ref 45, Value.ref 46, Value.ref 47, Value.int 230 0, Value.int 12 0, Value.str (Str.ofString "/claim/cut.py") 231] }
noncomputable def ho60 (P : Params) : Obj := { cls := Value.type "tuple", data := Data.seq #[Value.str (Str.ofString "a") 199, Value.str (Str.ofString "n") 200, Value.str (Str.ofString "ring") 201] }
noncomputable def ho76 (P : Params) : Obj := { cls := Value.none, data := Data.func { name := Str.ofString "is_before", qualname := Str.ofString "is_before", params := p42, body := FuncBody.stmts b42, scope := s42, globals := 0, closure := [], defaults := Value.none, kwdefaults := Value.none } }
noncomputable def ho50 (P : Params) : Obj := { cls := Value.none, data := Data.fields #[Value.int 1 0, Value.int 0 0, Value.ref 20, Value.int 5 0, Value.int 0 0, Value.ref 27, Value.int 7 0, Value.int 0 0, Value.ref 34, Value.int 9 0, Value.int 0 0, Value.ref 41, Value.int 12 0, Value.int 0 0, Value.ref 48] }
noncomputable def ho56 (P : Params) : Obj := { cls := Value.type "code", data := Data.fields #[Value.str (Str.ofString "_wall") 187, Value.str (Str.ofString "_wall") 188, Value.str (Str.ofString "/claim/cut.py") 189, Value.int 1 0, Value.int 1 0, Value.int 0 0, Value.int 0 0, Value.int 3 0, Value.ref 15, Value.bool true, Value.int 181 0, Value.ref 16, Value.none, Value.ref 17, Value.ref 18, Value.ref 19, Value.int 191 0, Value.int 1 0, Value.str (Str.ofString "/claim/cut.py") 192] }
noncomputable def ho72 (P : Params) : Obj := { cls := Value.type "tuple", data := Data.seq #[] }
noncomputable def ho64 (P : Params) : Obj := { cls := Value.type "function", data := Data.func { name := Str.ofString "plus", qualname := Str.ofString "plus", params := p28, body := FuncBody.stmts b28, scope := s28, globals := 3, closure := [], defaults := Value.none, kwdefaults := Value.none, pyModule := Value.str (Str.ofString "thinstack.sequence") 194, code := Value.ref 27 } }
noncomputable def ho80 (P : Params) : Obj := { cls := Value.none, data := Data.fields #[] }
noncomputable def ho54 (P : Params) : Obj := { cls := Value.type "tuple", data := Data.seq #[] }
noncomputable def ho70 (P : Params) : Obj := { cls := Value.type "code", data := Data.fields #[Value.str (Str.ofString "distance") 205, Value.str (Str.ofString "distance") 206, Value.str (Str.ofString "/claim/cut.py") 207, Value.int 7 0, Value.int 3 0, Value.int 0 0, Value.int 0 0, Value.int 3 0, Value.ref 29, Value.bool true, Value.int 181 0, Value.ref 30, Value.none, Value.ref 31, Value.ref 32, Value.ref 33, Value.int 211 0, Value.int 7 0, Value.str (Str.ofString "/claim/cut.py") 212] }
noncomputable def ho62 (P : Params) : Obj := { cls := Value.none, data := Data.func { name := Str.ofString "plus", qualname := Str.ofString "plus", params := p28, body := FuncBody.stmts b28, scope := s28, globals := 0, closure := [], defaults := Value.none, kwdefaults := Value.none } }
noncomputable def ho78 (P : Params) : Obj := { cls := Value.type "function", data := Data.func { name := Str.ofString "is_before", qualname := Str.ofString "is_before", params := p42, body := FuncBody.stmts b42, scope := s42, globals := 3, closure := [], defaults := Value.none, kwdefaults := Value.none, pyModule := Value.str (Str.ofString "thinstack.sequence") 194, code := Value.ref 41 } }
noncomputable def ho58 (P : Params) : Obj := { cls := Value.type "tuple", data := Data.seq #[] }
noncomputable def ho74 (P : Params) : Obj := { cls := Value.type "tuple", data := Data.seq #[Value.str (Str.ofString "a") 217, Value.str (Str.ofString "b") 218, Value.str (Str.ofString "ring") 219, Value.str (Str.ofString "gap") 220] }
noncomputable def ho66 (P : Params) : Obj := { cls := Value.none, data := Data.fields #[] }
noncomputable def ho82 (P : Params) : Obj := { cls := Value.type "tuple", data := Data.seq #[] }
noncomputable def ho86 (P : Params) : Obj := { cls := Value.type "dict", data := Data.dict #[{ hash := PyData.keyHash P (Str.ofString "__name__"), key := Value.str (Str.ofString "__name__") 165, val := Value.str (Str.ofString "thinstack.assembly") 233 }, { hash := PyData.keyHash P (Str.ofString "__doc__"), key := Value.str (Str.ofString "__doc__") 166, val := Value.none }, { hash := PyData.keyHash P (Str.ofString "__package__"), key := Value.str (Str.ofString "__package__") 167, val := Value.none }, { hash := PyData.keyHash P (Str.ofString "__loader__"), key := Value.str (Str.ofString "__loader__") 168, val := Value.builtin "__main__.__loader__#opaque" }, { hash := PyData.keyHash P (Str.ofString "__spec__"), key := Value.str (Str.ofString "__spec__") 169, val := Value.none }, { hash := PyData.keyHash P (Str.ofString "__annotations__"), key := Value.str (Str.ofString "__annotations__") 170, val := Value.ref 6 }, { hash := PyData.keyHash P (Str.ofString "__builtins__"), key := Value.str (Str.ofString "__builtins__") 171, val := Value.ref 4 }, { hash := PyData.keyHash P (Str.ofString "__file__"), key := Value.str (Str.ofString "__file__") 173, val := Value.str (Str.ofString "/claim/cut.py") 172 }, { hash := PyData.keyHash P (Str.ofString "__cached__"), key := Value.str (Str.ofString "__cached__") 174, val := Value.none }, { hash := PyData.keyHash P (Str.ofString "_wall"), key := Value.str (Str.ofString "_wall") 193, val := Value.ref 21 }, { hash := PyData.keyHash P (Str.ofString "plus"), key := Value.str (Str.ofString "plus") 204, val := Value.ref 28 }, { hash := PyData.keyHash P (Str.ofString "distance"), key := Value.str (Str.ofString "distance") 213, val := Value.ref 35 }, { hash := PyData.keyHash P (Str.ofString "is_before"), key := Value.str (Str.ofString "is_before") 223, val := Value.ref 42 }, { hash := PyData.keyHash P (Str.ofString "is_at_most"), key := Value.str (Str.ofString "is_at_most") 232, val := Value.ref 49 }, { hash := PyData.keyHash P (Str.ofString "Assembly"), key := Value.str (Str.ofString "Assembly") 390, val := Value.ref 141 }] 15 }
noncomputable def ho101 (P : Params) : Obj := { cls := Value.type "function", data := Data.func { name := Str.ofString "__init__", qualname := Str.ofString "Assembly.__init__", params := p63, body := FuncBody.stmts b63, scope := s63, globals := 3, closure := [], defaults := Value.none, kwdefaults := Value.none, pyModule := Value.str (Str.ofString "thinstack.assembly") 233, code := Value.ref 62 } }
noncomputable def ho165 (P : Params) : Obj := { cls := Value.type "tuple", data := Data.seq #[Value.str (Str.ofString "self") 357, Value.str (Str.ofString "next") 358, Value.str (Str.ofString "found") 359, Value.str (Str.ofString "at") 360, Value.str (Str.ofString "seq") 361, Value.str (Str.ofString "octets") 362, Value.str (Str.ofString "missing") 363] }
noncomputable def ho133 (P : Params) : Obj := { cls := Value.type "code", data := Data.fields #[Value.str (Str.ofString "missing") 289, Value.str (Str.ofString "Assembly.missing") 290, Value.str (Str.ofString "/claim/cut.py") 291, Value.int 42 0, Value.int 4 0, Value.int 0 0, Value.int 0 0, Value.int 3 0, Value.ref 90, Value.bool true, Value.int 181 0, Value.ref 91, Value.none, Value.ref 92, Value.ref 93, Value.ref 94, Value.int 303 0, Value.int 42 0, Value.str (Str.ofString "/claim/cut.py") 304] }
noncomputable def ho117 (P : Params) : Obj := { cls := Value.type "tuple", data := Data.seq #[] }
noncomputable def ho181 (P : Params) : Obj := { cls := Value.type "getset_descriptor", data := Data.fields #[Value.str (Str.ofString "__weakref__") 386, Value.ref 141, Value.builtin "ExceptionGroup.__weakref__", Value.none] }
noncomputable def ho149 (P : Params) : Obj := { cls := Value.type "tuple", data := Data.seq #[] }
noncomputable def ho109 (P : Params) : Obj := { cls := Value.type "tuple", data := Data.seq #[Value.str (Str.ofString "self") 264] }
noncomputable def ho173 (P : Params) : Obj := { cls := Value.type "tuple", data := Data.seq #[] }
noncomputable def ho141 (P : Params) : Obj := { cls := Value.type "function", data := Data.func { name := Str.ofString "merged", qualname := Str.ofString "Assembly.merged", params := p103, body := FuncBody.stmts b103, scope := s103, globals := 3, closure := [], defaults := Value.none, kwdefaults := Value.none, pyModule := Value.str (Str.ofString "thinstack.assembly") 233, code := Value.ref 102 } }
noncomputable def ho93 (P : Params) : Obj := { cls := Value.type "code", data := Data.fields #[Value.str (Str.ofString "Assembly") 237, Value.str (Str.ofString "Assembly") 238, Value.str (Str.ofString "/claim/cut.py") 239, Value.int 15 0, Value.int 0 0, Value.int 0 0, Value.int 0 0, Value.int 0 0, Value.ref 53, Value.bool false, Value.int 181 0, Value.ref 54, Value.none, Value.none, Value.none, Value.none, Value.int 240 0, Value.int 15 0, Value.str (Str.ofString "/claim/cut.py") 241] }
noncomputable def ho125 (P : Params) : Obj := { cls := Value.none, data := Data.func { name := Str.ofString "put", qualname := Str.ofString "Assembly.put", params := p89, body := FuncBody.stmts b89, scope := s89, globals := 0, closure := [], defaults := Value.none, kwdefaults := Value.none } }
noncomputable def ho157 (P : Params) : Obj := { cls := Value.none, data := Data.fields #[] }
noncomputable def ho105 (P : Params) : Obj := { cls := Value.type "code", data := Data.fields #[Value.str (Str.ofString "size") 255, Value.str (Str.ofString "Assembly.size") 256, Value.str (Str.ofString "/claim/cut.py") 257, Value.int 21 0, Value.int 1 0, Value.int 0 0, Value.int 0 0, Value.int 3 0, Value.ref 64, Value.bool true, Value.int 181 0, Value.ref 65, Value.none, Value.none, Value.none, Value.ref 66, Value.int 258 0, Value.int 21 0, Value.str (Str.ofString "/claim/cut.py") 259] }
noncomputable def ho169 (P : Params) : Obj := { cls := Value.type "function", data := Data.func { name := Str.ofString "holes", qualname := Str.ofString "Assembly.holes", params := p131, body := FuncBody.stmts b131, scope := s131, globals := 3, closure := [], defaults := Value.none, kwdefaults := Value.none, pyModule := Value.str (Str.ofString "thinstack.assembly") 233, code := Value.ref 130 } }
noncomputable def ho137 (P : Params) : Obj := { cls := Value.type "tuple", data := Data.seq #[Value.str (Str.ofString "self") 309, Value.str (Str.ofString "fresh") 310, Value.str (Str.ofString "next") 311, Value.str (Str.ofString "found") 312, Value.str (Str.ofString "rest") 313, Value.str (Str.ofString "seq") 314, Value.str (Str.ofString "kept") 315, Value.str (Str.ofString "first") 316] }
noncomputable def ho89 (P : Params) : Obj := { cls := Value.type "builtin_function_or_method", data := Data.fields #[Value.builtin "type.__prepare__", Value.type "type"] }
noncomputable def ho121 (P : Params) : Obj := { cls := Value.type "tuple", data := Data.seq #[] }
noncomputable def ho153 (P : Params) : Obj := { cls := Value.none, data := Data.func { name := Str.ofString "forget", qualname := Str.ofString "Assembly.forget", params := p117, body := FuncBody.stmts b117, scope := s117, globals := 0, closure := [], defaults := Value.none, kwdefaults := Value.none } }
noncomputable def ho113 (P : Params) : Obj := { cls := Value.type "function", data := Data.func { name := Str.ofString "is_empty", qualname := Str.ofString "Assembly.is_empty", params := p75, body := FuncBody.stmts b75, scope := s75, globals := 3, closure := [], defaults := Value.none, kwdefaults := Value.none, pyModule := Value.str (Str.ofString "thinstack.assembly") 233, code := Value.ref 74 } }
noncomputable def ho177 (P : Params) : Obj := { cls := Value.type "tuple", data := Data.seq #[Value.str (Str.ofString "parts") 381, Value.str (Str.ofString "ring") 382] }
noncomputable def ho145 (P : Params) : Obj := { cls := Value.type "tuple", data := Data.seq #[] }
noncomputable def ho97 (P : Params) : Obj := { cls := Value.type "tuple", data := Data.seq #[Value.str (Str.ofString "self") 250, Value.str (Str.ofString "ring") 251] }
noncomputable def ho129 (P : Params) : Obj := { cls := Value.none, data := Data.fields #[] }
noncomputable def ho161 (P : Params) : Obj := { cls := Value.type "code", data := Data.fields #[Value.str (Str.ofString "take") 346, Value.str (Str.ofString "Assembly.take") 347, Value.str (Str.ofString "/claim/cut.py") 348, Value.int 90 0, Value.int 2 0, Value.int 0 0, Value.int 0 0, Value.int 3 0, Value.ref 118, Value.bool true, Value.int 181 0, Value.ref 119, Value.none, Value.ref 120, Value.ref 121, Value.ref 122, Value.int 351 0, Value.int 90 0, Value.str (Str.ofString "/claim/cut.py") 352] }
noncomputable def ho103 (P : Params) : Obj := { cls := Value.none, data := Data.fields #[] }
noncomputable def ho167 (P : Params) : Obj := { cls := Value.none, data := Data.func { name := Str.ofString "holes", qualname := Str.ofString "Assembly.holes", params := p131, body := FuncBody.stmts b131, scope := s131, globals := 0, closure := [], defaults := Value.none, kwdefaults := Value.none } }
noncomputable def ho135 (P : Params) : Obj := { cls := Value.type "tuple", data := Data.seq #[] }
noncomputable def ho119 (P : Params) : Obj := { cls := Value.type "code", data := Data.fields #[Value.str (Str.ofString "offset") 268, Value.str (Str.ofString "Assembly.offset") 269, Value.str (Str.ofString "/claim/cut.py") 270, Value.int 27 0, Value.int 3 0, Value.int 0 0, Value.int 0 0, Value.int 3 0, Value.ref 76, Value.bool true, Value.int 181 0, Value.ref 77, Value.none, Value.ref 78, Value.ref 79, Value.ref 80, Value.int 274 0, Value.int 27 0, Value.str (Str.ofString "/claim/cut.py") 275] }
noncomputable def ho183 (P : Params) : Obj := { cls := Value.type "builtin_function_or_method", data := Data.fields #[Value.builtin "object.__init_subclass__", Value.ref 141] }
noncomputable def ho151 (P : Params) : Obj := { cls := Value.type "tuple", data := Data.seq #[Value.str (Str.ofString "self") 338, Value.str (Str.ofString "next") 339, Value.str (Str.ofString "seq") 340, Value.str (Str.ofString "octets") 341, Value.str (Str.ofString "begin") 342] }
noncomputable def ho111 (P : Params) : Obj := { cls := Value.none, data := Data.func { name := Str.ofString "is_empty", qualname := Str.ofString "Assembly.is_empty", params := p75, body := FuncBody.stmts b75, scope := s75, globals := 0, closure := [], defaults := Value.none, kwdefaults := Value.none } }
noncomputable def ho175 (P : Params) : Obj := { cls := Value.type "code", data := Data.fields #[Value.str (Str.ofString "cut_behind") 367, Value.str (Str.ofString "Assembly.cut_behind") 368, Value.str (Str.ofString "/claim/cut.py") 369, Value.int 105 0, Value.int 3 0, Value.int 0 0, Value.int 0 0, Value.int 3 0, Value.ref 132, Value.bool true, Value.int 181 0, Value.ref 133, Value.none, Value.ref 134, Value.ref 135, Value.ref 136, Value.int 378 0, Value.int 105 0, Value.str (Str.ofString "/claim/cut.py") 379] }
noncomputable def ho143 (P : Params) : Obj := { cls := Value.none, data := Data.fields #[] }
noncomputable def ho95 (P : Params) : Obj := { cls := Value.type "tuple", data := Data.seq #[] }
noncomputable def ho127 (P : Params) : Obj := { cls := Value.type "function", data := Data.func { name := Str.ofString "put", qualname := Str.ofString "Assembly.put", params := p89, body := FuncBody.stmts b89, scope := s89, globals := 3, closure := [], defaults := Value.none, kwdefaults := Value.none, pyModule := Value.str (Str.ofString "thinstack.assembly") 233, code := Value.ref 88 } }
noncomputable def ho159 (P : Params) : Obj := { cls := Value.type "tuple", data := Data.seq #[] }
noncomputable def ho107 (P : Params) : Obj := { cls := Value.type "tuple", data := Data.seq #[] }
noncomputable def ho171 (P : Params) : Obj := { cls := Value.none, data := Data.fields #[] }
noncomputable def ho139 (P : Params) : Obj := { cls := Value.none, data := Data.func { name := Str.ofString "merged", qualname := Str.ofString "Assembly.merged", params := p103, body := FuncBody.stmts b103, scope := s103, globals := 0, closure := [], defaults := Value.none, kwdefaults := Value.none } }
noncomputable def ho91 (P : Params) : Obj := { cls := Value.type "tuple", data := Data.seq #[] }
noncomputable def ho123 (P : Params) : Obj := { cls := Value.type "tuple", data := Data.seq #[Value.str (Str.ofString "self") 280, Value.str (Str.ofString "seq") 281, Value.str (Str.ofString "octets") 282, Value.str (Str.ofString "next") 283, Value.str (Str.ofString "begin") 284, Value.str (Str.ofString "fresh") 285] }
noncomputable def ho155 (P : Params) : Obj := { cls := Value.type "function", data := Data.func { name := Str.ofString "forget", qualname := Str.ofString "Assembly.forget", params := p117, body := FuncBody.stmts b117, scope := s117, globals := 3, closure := [], defaults := Value.none, kwdefaults := Value.none, pyModule := Value.str (Str.ofString "thinstack.assembly") 233, code := Value.ref 116 } }
noncomputable def ho115 (P : Params) : Obj := { cls := Value.none, data := Data.fields #[] }
noncomputable def ho179 (P : Params) : Obj := { cls := Value.type "type", data := Data.cls { name := Str.ofString "Assembly", bases := [Value.type "object"], mro := [Value.ref 141, Value.type "object"], ns := 140, qualname := Str.ofString "Assembly" }, slots := #[none, none, some (Value.str (Str.ofString "Assembly") 235), some (Value.str (Str.ofString "Assembly") 243), some (Value.builtin "object.__new__"), some (Value.bool true)] }
noncomputable def ho147 (P : Params) : Obj := { cls := Value.type "code", data := Data.fields #[Value.str (Str.ofString "joined") 320, Value.str (Str.ofString "Assembly.joined") 321, Value.str (Str.ofString "/claim/cut.py") 322, Value.int 68 0, Value.int 3 0, Value.int 0 0, Value.int 0 0, Value.int 3 0, Value.ref 104, Value.bool true, Value.int 181 0, Value.ref 105, Value.none, Value.ref 106, Value.ref 107, Value.ref 108, Value.int 332 0, Value.int 68 0, Value.str (Str.ofString "/claim/cut.py") 333] }
noncomputable def ho99 (P : Params) : Obj := { cls := Value.none, data := Data.func { name := Str.ofString "__init__", qualname := Str.ofString "Assembly.__init__", params := p63, body := FuncBody.stmts b63, scope := s63, globals := 0, closure := [], defaults := Value.none, kwdefaults := Value.none } }
noncomputable def ho131 (P : Params) : Obj := { cls := Value.type "tuple", data := Data.seq #[] }
noncomputable def ho163 (P : Params) : Obj := { cls := Value.type "tuple", data := Data.seq #[] }
noncomputable def ho102 (P : Params) : Obj := { cls := Value.type "tuple", data := Data.seq #[] }
noncomputable def ho166 (P : Params) : Obj := { cls := Value.type "tuple", data := Data.seq #[] }
noncomputable def ho134 (P : Params) : Obj := { cls := Value.type "function", data := Data.func { name := Str.ofString "missing", qualname := Str.ofString "Assembly.missing", params := p96, body := FuncBody.stmts b96, scope := s96, globals := 3, closure := [], defaults := Value.none, kwdefaults := Value.none, pyModule := Value.str (Str.ofString "thinstack.assembly") 233, code := Value.ref 95 } }
noncomputable def ho118 (P : Params) : Obj := { cls := Value.none, data := Data.func { name := Str.ofString "offset", qualname := Str.ofString "Assembly.offset", params := p82, body := FuncBody.stmts b82, scope := s82, globals := 0, closure := [], defaults := Value.none, kwdefaults := Value.none } }
noncomputable def ho182 (P : Params) : Obj := { cls := Value.type "super", data := Data.fields #[Value.ref 141, Value.ref 141, Value.ref 141] }
noncomputable def ho150 (P : Params) : Obj := { cls := Value.none, data := Data.fields #[] }
noncomputable def ho110 (P : Params) : Obj := { cls := Value.type "tuple", data := Data.seq #[] }
noncomputable def ho174 (P : Params) : Obj := { cls := Value.none, data := Data.func { name := Str.ofString "cut_behind", qualname := Str.ofString "Assembly.cut_behind", params := p138, body := FuncBody.stmts b138, scope := s138, globals := 0, closure := [], defaults := Value.none, kwdefaults := Value.none } }
noncomputable def ho142 (P : Params) : Obj := { cls := Value.type "tuple", data := Data.seq #[] }
noncomputable def ho94 (P : Params) : Obj := { cls := Value.type "frame", slots := #[some (Value.ref 55), some (Value.ref 3), some (Value.ref 52), none, some (Value.str (Str.ofString "thinstack.assembly") 233), none, some (Value.ref 0)] }
noncomputable def ho126 (P : Params) : Obj := { cls := Value.type "code", data := Data.fields #[Value.str (Str.ofString "put") 277, Value.str (Str.ofString "Assembly.put") 278, Value.str (Str.ofString "/claim/cut.py") 279, Value.int 32 0, Value.int 4 0, Value.int 0 0, Value.int 0 0, Value.int 3 0, Value.ref 83, Value.bool true, Value.int 181 0, Value.ref 84, Value.none, Value.ref 85, Value.ref 86, Value.ref 87, Value.int 286 0, Value.int 32 0, Value.str (Str.ofString "/claim/cut.py") 287] }
noncomputable def ho158 (P : Params) : Obj := { cls := Value.type "tuple", data := Data.seq #[Value.str (Str.ofString "self") 349, Value.str (Str.ofString "next") 350] }
noncomputable def ho87 (P : Params) : Obj := { cls := Value.none, data := Data.fields #[Value.int 1 0, Value.int 0 0, Value.ref 20, Value.int 5 0, Value.int 0 0, Value.ref 27, Value.int 7 0, Value.int 0 0, Value.ref 34, Value.int 9 0, Value.int 0 0, Value.ref 41, Value.int 12 0, Value.int 0 0, Value.ref 48, Value.int 15 0, Value.int 0 0, Value.ref 55] }
noncomputable def ho106 (P : Params) : Obj := { cls := Value.type "function", data := Data.func { name := Str.ofString "size", qualname := Str.ofString "Assembly.size", params := p68, body := FuncBody.stmts b68, scope := s68, globals := 3, closure := [], defaults := Value.none, kwdefaults := Value.none, pyModule := Value.str (Str.ofString "thinstack.assembly") 233, code := Value.ref 67 } }
noncomputable def ho170 (P : Params) : Obj := { cls := Value.type "tuple", data := Data.seq #[] }
noncomputable def ho138 (P : Params) : Obj := { cls := Value.type "tuple", data := Data.seq #[] }
noncomputable def ho90 (P : Params) : Obj := { cls := Value.type "dict", data := Data.dict #[{ hash := PyData.keyHash P (Str.ofString "__module__"), key := Value.str (Str.ofString "__module__") 242, val := Value.str (Str.ofString "thinstack.assembly") 233 }, { hash := PyData.keyHash P (Str.ofString "__qualname__"), key := Value.str (Str.ofString "__qualname__") 244, val := Value.str (Str.ofString "Assembly") 243 }, { hash := PyData.keyHash P (Str.ofString "__firstlineno__"), key := Value.str (Str.ofString "__firstlineno__") 246, val := Value.int 15 245 }, { hash := PyData.keyHash P (Str.ofString "__init__"), key := Value.str (Str.ofString "__init__") 254, val := Value.ref 63 }, { hash := PyData.keyHash P (Str.ofString "size"), key := Value.str (Str.ofString "size") 260, val := Value.ref 68 }, { hash := PyData.keyHash P (Str.ofString "is_empty"), key := Value.str (Str.ofString "is_empty") 267, val := Value.ref 75 }, { hash := PyData.keyHash P (Str.ofString "offset"), key := Value.str (Str.ofString "offset") 276, val := Value.ref 82 }, { hash := PyData.keyHash P (Str.ofString "put"), key := Value.str (Str.ofString "put") 288, val := Value.ref 89 }, { hash := PyData.keyHash P (Str.ofString "missing"), key := Value.str (Str.ofString "missing") 305, val := Value.ref 96 }, { hash := PyData.keyHash P (Str.ofString "merged"), key := Value.str (Str.ofString "merged") 319, val := Value.ref 103 }, { hash := PyData.keyHash P (Str.ofString "joined"), key := Value.str (Str.ofString "joined") 334, val := Value.ref 110 }, { hash := PyData.keyHash P (Str.ofString "forget"), key := Value.str (Str.ofString "forget") 345, val := Value.ref 117 }, { hash := PyData.keyHash P (Str.ofString "take"), key := Value.str (Str.ofString "take") 353, val := Value.ref 124 }, { hash := PyData.keyHash P (Str.ofString "holes"), key := Value.str (Str.ofString "holes") 366, val := Value.ref 131 }, { hash := PyData.keyHash P (Str.ofString "cut_behind"), key := Value.str (Str.ofString "cut_behind") 380, val := Value.ref 138 }, { hash := PyData.keyHash P (Str.ofString "__static_attributes__"), key := Value.str (Str.ofString "__static_attributes__") 383, val := Value.ref 139 }] 16 }
noncomputable def ho122 (P : Params) : Obj := { cls := Value.none, data := Data.fields #[] }
noncomputable def ho154 (P : Params) : Obj := { cls := Value.type "code", data := Data.fields #[Value.str (Str.ofString "forget") 335, Value.str (Str.ofString "Assembly.forget") 336, Value.str (Str.ofString "/claim/cut.py") 337, Value.int 79 0, Value.int 2 0, Value.int 0 0, Value.int 0 0, Value.int 3 0, Value.ref 111, Value.bool true, Value.int 181 0, Value.ref 112, Value.none, Value.ref 113, Value.ref 114, Value.ref 115, Value.int 343 0, Value.int 79 0, Value.str (Str.ofString "/claim/cut.py") 344] }
noncomputable def ho114 (P : Params) : Obj := { cls := Value.type "tuple", data := Data.seq #[] }
noncomputable def ho178 (P : Params) : Obj := { cls := Value.type "dict", data := Data.dict #[{ hash := PyData.keyHash P (Str.ofString "__module__"), key := Value.str (Str.ofString "__module__") 242, val := Value.str (Str.ofString "thinstack.assembly") 233 }, { hash := PyData.keyHash P (Str.ofString "__firstlineno__"), key := Value.str (Str.ofString "__firstlineno__") 246, val := Value.int 15 245 }, { hash := PyData.keyHash P (Str.ofString "__init__"), key := Value.str (Str.ofString "__init__") 254, val := Value.ref 63 }, { hash := PyData.keyHash P (Str.ofString "size"), key := Value.str (Str.ofString "size") 260, val := Value.ref 68 }, { hash := PyData.keyHash P (Str.ofString "is_empty"), key := Value.str (Str.ofString "is_empty") 267, val := Value.ref 75 }, { hash := PyData.keyHash P (Str.ofString "offset"), key := Value.str (Str.ofString "offset") 276, val := Value.ref 82 }, { hash := PyData.keyHash P (Str.ofString "put"), key := Value.str (Str.ofString "put") 288, val := Value.ref 89 }, { hash := PyData.keyHash P (Str.ofString "missing"), key := Value.str (Str.ofString "missing") 305, val := Value.ref 96 }, { hash := PyData.keyHash P (Str.ofString "merged"), key := Value.str (Str.ofString "merged") 319, val := Value.ref 103 }, { hash := PyData.keyHash P (Str.ofString "joined"), key := Value.str (Str.ofString "joined") 334, val := Value.ref 110 }, { hash := PyData.keyHash P (Str.ofString "forget"), key := Value.str (Str.ofString "forget") 345, val := Value.ref 117 }, { hash := PyData.keyHash P (Str.ofString "take"), key := Value.str (Str.ofString "take") 353, val := Value.ref 124 }, { hash := PyData.keyHash P (Str.ofString "holes"), key := Value.str (Str.ofString "holes") 366, val := Value.ref 131 }, { hash := PyData.keyHash P (Str.ofString "cut_behind"), key := Value.str (Str.ofString "cut_behind") 380, val := Value.ref 138 }, { hash := PyData.keyHash P (Str.ofString "__static_attributes__"), key := Value.str (Str.ofString "__static_attributes__") 383, val := Value.ref 139 }, { hash := PyData.keyHash P (Str.ofString "__dict__"), key := Value.str (Str.ofString "__dict__") 385, val := Value.ref 142 }, { hash := PyData.keyHash P (Str.ofString "__weakref__"), key := Value.str (Str.ofString "__weakref__") 387, val := Value.ref 143 }, { hash := PyData.keyHash P (Str.ofString "__doc__"), key := Value.str (Str.ofString "__doc__") 388, val := Value.none }] 4 }
noncomputable def ho146 (P : Params) : Obj := { cls := Value.none, data := Data.func { name := Str.ofString "joined", qualname := Str.ofString "Assembly.joined", params := p110, body := FuncBody.stmts b110, scope := s110, globals := 0, closure := [], defaults := Value.none, kwdefaults := Value.none } }
noncomputable def ho98 (P : Params) : Obj := { cls := Value.type "tuple", data := Data.seq #[] }
noncomputable def ho130 (P : Params) : Obj := { cls := Value.type "tuple", data := Data.seq #[Value.str (Str.ofString "self") 292, Value.str (Str.ofString "begin") 293, Value.str (Str.ofString "octets") 294, Value.str (Str.ofString "next") 295, Value.str (Str.ofString "end") 296, Value.str (Str.ofString "found") 297, Value.str (Str.ofString "at") 298, Value.str (Str.ofString "seq") 299, Value.str (Str.ofString "kept") 300, Value.str (Str.ofString "first") 301, Value.str (Str.ofString "last") 302] }
noncomputable def ho162 (P : Params) : Obj := { cls := Value.type "function", data := Data.func { name := Str.ofString "take", qualname := Str.ofString "Assembly.take", params := p124, body := FuncBody.stmts b124, scope := s124, globals := 3, closure := [], defaults := Value.none, kwdefaults := Value.none, pyModule := Value.str (Str.ofString "thinstack.assembly") 233, code := Value.ref 123 } }
noncomputable def ho104 (P : Params) : Obj := { cls := Value.none, data := Data.func { name := Str.ofString "size", qualname := Str.ofString "Assembly.size", params := p68, body := FuncBody.stmts b68, scope := s68, globals := 0, closure := [], defaults := Value.none, kwdefaults := Value.none } }
noncomputable def ho168 (P : Params) : Obj := { cls := Value.type "code", data := Data.fields #[Value.str (Str.ofString "holes") 354, Value.str (Str.ofString "Assembly.holes") 355, Value.str (Str.ofString "/claim/cut.py") 356, Value.int 96 0, Value.int 2 0, Value.int 0 0, Value.int 0 0, Value.int 3 0, Value.ref 125, Value.bool true, Value.int 181 0, Value.ref 126, Value.none, Value.ref 127, Value.ref 128, Value.ref 129, Value.int 364 0, Value.int 96 0, Value.str (Str.ofString "/claim/cut.py") 365] }
noncomputable def ho136 (P : Params) : Obj := { cls := Value.none, data := Data.fields #[] }
noncomputable def ho88 (P : Params) : Obj := { cls := Value.type "tuple", data := Data.seq #[] }
noncomputable def ho120 (P : Params) : Obj := { cls := Value.type "function", data := Data.func { name := Str.ofString "offset", qualname := Str.ofString "Assembly.offset", params := p82, body := FuncBody.stmts b82, scope := s82, globals := 3, closure := [], defaults := Value.none, kwdefaults := Value.none, pyModule := Value.str (Str.ofString "thinstack.assembly") 233, code := Value.ref 81 } }
noncomputable def ho152 (P : Params) : Obj := { cls := Value.type "tuple", data := Data.seq #[] }
noncomputable def ho112 (P : Params) : Obj := { cls := Value.type "code", data := Data.fields #[Value.str (Str.ofString "is_empty") 261, Value.str (Str.ofString "Assembly.is_empty") 262, Value.str (Str.ofString "/claim/cut.py") 263, Value.int 24 0, Value.int 1 0, Value.int 0 0, Value.int 0 0, Value.int 3 0, Value.ref 69, Value.bool true, Value.int 181 0, Value.ref 70, Value.none, Value.ref 71, Value.ref 72, Value.ref 73, Value.int 265 0, Value.int 24 0, Value.str (Str.ofString "/claim/cut.py") 266] }
noncomputable def ho176 (P : Params) : Obj := { cls := Value.type "function", data := Data.func { name := Str.ofString "cut_behind", qualname := Str.ofString "Assembly.cut_behind", params := p138, body := FuncBody.stmts b138, scope := s138, globals := 3, closure := [], defaults := Value.none, kwdefaults := Value.none, pyModule := Value.str (Str.ofString "thinstack.assembly") 233, code := Value.ref 137 } }
noncomputable def ho144 (P : Params) : Obj := { cls := Value.type "tuple", data := Data.seq #[Value.str (Str.ofString "self") 323, Value.str (Str.ofString "pieces") 324, Value.str (Str.ofString "next") 325, Value.str (Str.ofString "found") 326, Value.str (Str.ofString "end") 327, Value.str (Str.ofString "first") 328, Value.str (Str.ofString "octets") 329, Value.str (Str.ofString "seq") 330, Value.str (Str.ofString "ahead") 331] }
noncomputable def ho96 (P : Params) : Obj := { cls := Value.none, data := Data.fields #[] }
noncomputable def ho128 (P : Params) : Obj := { cls := Value.type "tuple", data := Data.seq #[] }
noncomputable def ho160 (P : Params) : Obj := { cls := Value.none, data := Data.func { name := Str.ofString "take", qualname := Str.ofString "Assembly.take", params := p124, body := FuncBody.stmts b124, scope := s124, globals := 0, closure := [], defaults := Value.none, kwdefaults := Value.none } }
noncomputable def ho108 (P : Params) : Obj := { cls := Value.none, data := Data.fields #[] }
noncomputable def ho172 (P : Params) : Obj := { cls := Value.type "tuple", data := Data.seq #[Value.str (Str.ofString "self") 370, Value.str (Str.ofString "edge") 371, Value.str (Str.ofString "next") 372, Value.str (Str.ofString "most") 373, Value.str (Str.ofString "found") 374, Value.str (Str.ofString "seq") 375, Value.str (Str.ofString "octets") 376, Value.str (Str.ofString "left") 377] }
noncomputable def ho140 (P : Params) : Obj := { cls := Value.type "code", data := Data.fields #[Value.str (Str.ofString "merged") 306, Value.str (Str.ofString "Assembly.merged") 307, Value.str (Str.ofString "/claim/cut.py") 308, Value.int 59 0, Value.int 3 0, Value.int 0 0, Value.int 0 0, Value.int 3 0, Value.ref 97, Value.bool true, Value.int 181 0, Value.ref 98, Value.none, Value.ref 99, Value.ref 100, Value.ref 101, Value.int 317 0, Value.int 59 0, Value.str (Str.ofString "/claim/cut.py") 318] }
noncomputable def ho92 (P : Params) : Obj := { cls := Value.none, data := Data.fields #[Value.int 17 0, Value.int 4 0, Value.ref 62, Value.int 21 0, Value.int 4 0, Value.ref 67, Value.int 24 0, Value.int 4 0, Value.ref 74, Value.int 27 0, Value.int 4 0, Value.ref 81, Value.int 32 0, Value.int 4 0, Value.ref 88, Value.int 42 0, Value.int 4 0, Value.ref 95, Value.int 59 0, Value.int 4 0, Value.ref 102, Value.int 68 0, Value.int 4 0, Value.ref 109, Value.int 79 0, Value.int 4 0, Value.ref 116, Value.int 90 0, Value.int 4 0, Value.ref 123, Value.int 96 0, Value.int 4 0, Value.ref 130, Value.int 105 0, Value.int 4 0, Value.ref 137] }
noncomputable def ho124 (P : Params) : Obj := { cls := Value.type "tuple", data := Data.seq #[] }
noncomputable def ho156 (P : Params) : Obj := { cls := Value.type "tuple", data := Data.seq #[] }
noncomputable def ho116 (P : Params) : Obj := { cls := Value.type "tuple", data := Data.seq #[Value.str (Str.ofString "self") 271, Value.str (Str.ofString "seq") 272, Value.str (Str.ofString "next") 273] }
noncomputable def ho180 (P : Params) : Obj := { cls := Value.type "getset_descriptor", data := Data.fields #[Value.str (Str.ofString "__dict__") 384, Value.ref 141, Value.builtin "function.__dict__", Value.builtin "function.__dict__#set"] }
noncomputable def ho148 (P : Params) : Obj := { cls := Value.type "function", data := Data.func { name := Str.ofString "joined", qualname := Str.ofString "Assembly.joined", params := p110, body := FuncBody.stmts b110, scope := s110, globals := 3, closure := [], defaults := Value.none, kwdefaults := Value.none, pyModule := Value.str (Str.ofString "thinstack.assembly") 233, code := Value.ref 109 } }
noncomputable def ho100 (P : Params) : Obj := { cls := Value.type "code", data := Data.fields #[Value.str (Str.ofString "__init__") 247, Value.str (Str.ofString "Assembly.__init__") 248, Value.str (Str.ofString "/claim/cut.py") 249, Value.int 17 0, Value.int 2 0, Value.int 0 0, Value.int 0 0, Value.int 3 0, Value.ref 57, Value.bool true, Value.int 181 0, Value.ref 58, Value.none, Value.ref 59, Value.ref 60, Value.ref 61, Value.int 252 0, Value.int 17 0, Value.str (Str.ofString "/claim/cut.py") 253] }
noncomputable def ho132 (P : Params) : Obj := { cls := Value.none, data := Data.func { name := Str.ofString "missing", qualname := Str.ofString "Assembly.missing", params := p96, body := FuncBody.stmts b96, scope := s96, globals := 0, closure := [], defaults := Value.none, kwdefaults := Value.none } }
noncomputable def ho164 (P : Params) : Obj := { cls := Value.none, data := Data.fields #[] }
noncomputable def ho263 (P : Params) : Obj := { cls := Value.type "dict", data := Data.dict #[{ hash := PyData.keyHash P (Str.ofString "__name__"), key := Value.str (Str.ofString "__name__") 165, val := Value.str (Str.ofString "thinstack.receiver") 391 }, { hash := PyData.keyHash P (Str.ofString "__doc__"), key := Value.str (Str.ofString "__doc__") 166, val := Value.none }, { hash := PyData.keyHash P (Str.ofString "__package__"), key := Value.str (Str.ofString "__package__") 167, val := Value.none }, { hash := PyData.keyHash P (Str.ofString "__loader__"), key := Value.str (Str.ofString "__loader__") 168, val := Value.builtin "__main__.__loader__#opaque" }, { hash := PyData.keyHash P (Str.ofString "__spec__"), key := Value.str (Str.ofString "__spec__") 169, val := Value.none }, { hash := PyData.keyHash P (Str.ofString "__annotations__"), key := Value.str (Str.ofString "__annotations__") 170, val := Value.ref 6 }, { hash := PyData.keyHash P (Str.ofString "__builtins__"), key := Value.str (Str.ofString "__builtins__") 171, val := Value.ref 4 }, { hash := PyData.keyHash P (Str.ofString "__file__"), key := Value.str (Str.ofString "__file__") 173, val := Value.str (Str.ofString "/claim/cut.py") 172 }, { hash := PyData.keyHash P (Str.ofString "__cached__"), key := Value.str (Str.ofString "__cached__") 174, val := Value.none }, { hash := PyData.keyHash P (Str.ofString "_wall"), key := Value.str (Str.ofString "_wall") 193, val := Value.ref 21 }, { hash := PyData.keyHash P (Str.ofString "plus"), key := Value.str (Str.ofString "plus") 204, val := Value.ref 28 }, { hash := PyData.keyHash P (Str.ofString "distance"), key := Value.str (Str.ofString "distance") 213, val := Value.ref 35 }, { hash := PyData.keyHash P (Str.ofString "is_before"), key := Value.str (Str.ofString "is_before") 223, val := Value.ref 42 }, { hash := PyData.keyHash P (Str.ofString "is_at_most"), key := Value.str (Str.ofString "is_at_most") 232, val := Value.ref 49 }, { hash := PyData.keyHash P (Str.ofString "Assembly"), key := Value.str (Str.ofString "Assembly") 390, val := Value.ref 141 }] 15 }
noncomputable def ho265 (P : Params) : Obj := { cls := Value.type "dict", data := Data.dict #[{ hash := PyData.keyHash P (Str.ofString "__name__"), key := Value.str (Str.ofString "__name__") 165, val := Value.str (Str.ofString "thinstack.receiver") 391 }, { hash := PyData.keyHash P (Str.ofString "__doc__"), key := Value.str (Str.ofString "__doc__") 166, val := Value.none }, { hash := PyData.keyHash P (Str.ofString "__package__"), key := Value.str (Str.ofString "__package__") 167, val := Value.none }, { hash := PyData.keyHash P (Str.ofString "__loader__"), key := Value.str (Str.ofString "__loader__") 168, val := Value.builtin "__main__.__loader__#opaque" }, { hash := PyData.keyHash P (Str.ofString "__spec__"), key := Value.str (Str.ofString "__spec__") 169, val := Value.none }, { hash := PyData.keyHash P (Str.ofString "__annotations__"), key := Value.str (Str.ofString "__annotations__") 170, val := Value.ref 6 }, { hash := PyData.keyHash P (Str.ofString "__builtins__"), key := Value.str (Str.ofString "__builtins__") 171, val := Value.ref 4 }, { hash := PyData.keyHash P (Str.ofString "__file__"), key := Value.str (Str.ofString "__file__") 173, val := Value.str (Str.ofString "/claim/cut.py") 172 }, { hash := PyData.keyHash P (Str.ofString "__cached__"), key := Value.str (Str.ofString "__cached__") 174, val := Value.none }, { hash := PyData.keyHash P (Str.ofString "_wall"), key := Value.str (Str.ofString "_wall") 193, val := Value.ref 21 }, { hash := PyData.keyHash P (Str.ofString "plus"), key := Value.str (Str.ofString "plus") 204, val := Value.ref 28 }, { hash := PyData.keyHash P (Str.ofString "distance"), key := Value.str (Str.ofString "distance") 213, val := Value.ref 35 }, { hash := PyData.keyHash P (Str.ofString "is_before"), key := Value.str (Str.ofString "is_before") 223, val := Value.ref 42 }, { hash := PyData.keyHash P (Str.ofString "is_at_most"), key := Value.str (Str.ofString "is_at_most") 232, val := Value.ref 49 }, { hash := PyData.keyHash P (Str.ofString "Assembly"), key := Value.str (Str.ofString "Assembly") 390, val := Value.ref 141 }, { hash := PyData.keyHash P (Str.ofString "Receiver"), key := Value.str (Str.ofString "Receiver") 565, val := Value.ref 275 }] 16 }
noncomputable def ho376 (P : Params) : Obj := { cls := Value.type "tuple", data := Data.seq #[] }
noncomputable def ho312 (P : Params) : Obj := { cls := Value.type "tuple", data := Data.seq #[Value.str (Str.ofString "self") 449, Value.str (Str.ofString "seq") 450, Value.str (Str.ofString "octets") 451, Value.str (Str.ofString "has_fin") 452, Value.str (Str.ofString "is_in_order") 453, Value.str (Str.ofString "kept") 454, Value.str (Str.ofString "fresh") 455] }
noncomputable def ho280 (P : Params) : Obj := { cls := Value.type "code", data := Data.fields #[Value.str (Str.ofString "__init__") 406, Value.str (Str.ofString "Receiver.__init__") 407, Value.str (Str.ofString "/claim/cut.py") 408, Value.int 116 0, Value.int 5 0, Value.int 0 0, Value.int 0 0, Value.int 3 0, Value.ref 154, Value.bool true, Value.int 181 0, Value.ref 155, Value.none, Value.ref 156, Value.ref 157, Value.ref 158, Value.int 414 0, Value.int 116 0, Value.str (Str.ofString "/claim/cut.py") 415] }
noncomputable def ho344 (P : Params) : Obj := { cls := Value.type "function", data := Data.func { name := Str.ofString "gather", qualname := Str.ofString "Receiver.gather", params := p223, body := FuncBody.stmts b223, scope := s223, globals := 3, closure := [], defaults := Value.none, kwdefaults := Value.none, pyModule := Value.str (Str.ofString "thinstack.receiver") 391, code := Value.ref 222 } }
noncomputable def ho392 (P : Params) : Obj := { cls := Value.type "code", data := Data.fields #[Value.str (Str.ofString "urgent_left") 540, Value.str (Str.ofString "Receiver.urgent_left") 541, Value.str (Str.ofString "/claim/cut.py") 542, Value.int 208 0, Value.int 1 0, Value.int 0 0, Value.int 0 0, Value.int 3 0, Value.ref 266, Value.bool true, Value.int 181 0, Value.ref 267, Value.none, Value.ref 268, Value.ref 269, Value.ref 270, Value.int 545 0, Value.int 208 0, Value.str (Str.ofString "/claim/cut.py") 546] }
noncomputable def ho328 (P : Params) : Obj := { cls := Value.none, data := Data.func { name := Str.ofString "note_fin", qualname := Str.ofString "Receiver.note_fin", params := p209, body := FuncBody.stmts b209, scope := s209, globals := 0, closure := [], defaults := Value.none, kwdefaults := Value.none } }
noncomputable def ho296 (P : Params) : Obj := { cls := Value.type "tuple", data := Data.seq #[] }
noncomputable def ho360 (P : Params) : Obj := { cls := Value.none, data := Data.fields #[] }
noncomputable def ho384 (P : Params) : Obj := { cls := Value.none, data := Data.func { name := Str.ofString "urgent", qualname := Str.ofString "Receiver.urgent", params := p265, body := FuncBody.stmts b265, scope := s265, globals := 0, closure := [], defaults := Value.none, kwdefaults := Value.none } }
noncomputable def ho320 (P : Params) : Obj := { cls := Value.type "tuple", data := Data.seq #[] }
noncomputable def ho288 (P : Params) : Obj := { cls := Value.type "function", data := Data.func { name := Str.ofString "free_edge", qualname := Str.ofString "Receiver.free_edge", params := p167, body := FuncBody.stmts b167, scope := s167, globals := 3, closure := [], defaults := Value.none, kwdefaults := Value.none, pyModule := Value.str (Str.ofString "thinstack.receiver") 391, code := Value.ref 166 } }
noncomputable def ho352 (P : Params) : Obj := { cls := Value.type "tuple", data := Data.seq #[] }
noncomputable def ho272 (P : Params) : Obj := { cls := Value.type "code", data := Data.fields #[Value.str (Str.ofString "Receiver") 395, Value.str (Str.ofString "Receiver") 396, Value.str (Str.ofString "/claim/cut.py") 397, Value.int 114 0, Value.int 0 0, Value.int 0 0, Value.int 0 0, Value.int 0 0, Value.ref 149, Value.bool false, Value.int 181 0, Value.ref 150, Value.none, Value.none, Value.none, Value.none, Value.int 398 0, Value.int 114 0, Value.str (Str.ofString "/claim/cut.py") 399] }
noncomputable def ho400 (P : Params) : Obj := { cls := Value.type "builtin_function_or_method", data := Data.fields #[Value.builtin "object.__init_subclass__", Value.ref 275] }
noncomputable def ho336 (P : Params) : Obj := { cls := Value.type "code", data := Data.fields #[Value.str (Str.ofString "ahead_of_fin") 477, Value.str (Str.ofString "Receiver.ahead_of_fin") 478, Value.str (Str.ofString "/claim/cut.py") 479, Value.int 169 0, Value.int 3 0, Value.int 0 0, Value.int 0 0, Value.int 3 0, Value.ref 210, Value.bool true, Value.int 181 0, Value.ref 211, Value.none, Value.ref 212, Value.ref 213, Value.ref 214, Value.int 483 0, Value.int 169 0, Value.str (Str.ofString "/claim/cut.py") 484] }
noncomputable def ho304 (P : Params) : Obj := { cls := Value.none, data := Data.fields #[] }
noncomputable def ho368 (P : Params) : Obj := { cls := Value.type "tuple", data := Data.seq #[Value.str (Str.ofString "self") 520] }
noncomputable def ho380 (P : Params) : Obj := { cls := Value.type "tuple", data := Data.seq #[] }
noncomputable def ho316 (P : Params) : Obj := { cls := Value.type "function", data := Data.func { name := Str.ofString "arrive", qualname := Str.ofString "Receiver.arrive", params := p195, body := FuncBody.stmts b195, scope := s195, globals := 3, closure := [], defaults := Value.none, kwdefaults := Value.none, pyModule := Value.str (Str.ofString "thinstack.receiver") 391, code := Value.ref 194 } }
noncomputable def ho284 (P : Params) : Obj := { cls := Value.type "tuple", data := Data.seq #[Value.str (Str.ofString "self") 420] }
noncomputable def ho348 (P : Params) : Obj := { cls := Value.type "tuple", data := Data.seq #[] }
noncomputable def ho268 (P : Params) : Obj := { cls := Value.type "builtin_function_or_method", data := Data.fields #[Value.builtin "type.__prepare__", Value.type "type"] }
noncomputable def ho396 (P : Params) : Obj := { cls := Value.type "type", data := Data.cls { name := Str.ofString "Receiver", bases := [Value.type "object"], mro := [Value.ref 275, Value.type "object"], ns := 274, qualname := Str.ofString "Receiver" }, slots := #[none, none, some (Value.str (Str.ofString "Receiver") 393), some (Value.str (Str.ofString "Receiver") 401), some (Value.builtin "object.__new__"), some (Value.bool true)] }
noncomputable def ho332 (P : Params) : Obj := { cls := Value.none, data := Data.fields #[] }
noncomputable def ho300 (P : Params) : Obj := { cls := Value.none, data := Data.func { name := Str.ofString "told_window", qualname := Str.ofString "Receiver.told_window", params := p181, body := FuncBody.stmts b181, scope := s181, globals := 0, closure := [], defaults := Value.none, kwdefaults := Value.none } }
noncomputable def ho364 (P : Params) : Obj := { cls := Value.type "code", data := Data.fields #[Value.str (Str.ofString "read") 508, Value.str (Str.ofString "Receiver.read") 509, Value.str (Str.ofString "/claim/cut.py") 510, Value.int 191 0, Value.int 2 0, Value.int 0 0, Value.int 0 0, Value.int 3 0, Value.ref 238, Value.bool true, Value.int 181 0, Value.ref 239, Value.none, Value.ref 240, Value.ref 241, Value.ref 242, Value.int 514 0, Value.int 191 0, Value.str (Str.ofString "/claim/cut.py") 515] }
noncomputable def ho388 (P : Params) : Obj := { cls := Value.none, data := Data.fields #[] }
noncomputable def ho324 (P : Params) : Obj := { cls := Value.type "tuple", data := Data.seq #[] }
noncomputable def ho292 (P : Params) : Obj := { cls := Value.type "tuple", data := Data.seq #[] }
noncomputable def ho356 (P : Params) : Obj := { cls := Value.none, data := Data.func { name := Str.ofString "available", qualname := Str.ofString "Receiver.available", params := p237, body := FuncBody.stmts b237, scope := s237, globals := 0, closure := [], defaults := Value.none, kwdefaults := Value.none } }
noncomputable def ho276 (P : Params) : Obj := { cls := Value.none, data := Data.fields #[] }
noncomputable def ho340 (P : Params) : Obj := { cls := Value.type "tuple", data := Data.seq #[Value.str (Str.ofString "self") 489, Value.str (Str.ofString "fresh") 490] }
noncomputable def ho308 (P : Params) : Obj := { cls := Value.type "code", data := Data.fields #[Value.str (Str.ofString "window") 439, Value.str (Str.ofString "Receiver.window") 440, Value.str (Str.ofString "/claim/cut.py") 441, Value.int 141 0, Value.int 1 0, Value.int 0 0, Value.int 0 0, Value.int 3 0, Value.ref 182, Value.bool true, Value.int 181 0, Value.ref 183, Value.none, Value.ref 184, Value.ref 185, Value.ref 186, Value.int 443 0, Value.int 141 0, Value.str (Str.ofString "/claim/cut.py") 444] }
noncomputable def ho372 (P : Params) : Obj := { cls := Value.type "function", data := Data.func { name := Str.ofString "is_over", qualname := Str.ofString "Receiver.is_over", params := p251, body := FuncBody.stmts b251, scope := s251, globals := 3, closure := [], defaults := Value.none, kwdefaults := Value.none, pyModule := Value.str (Str.ofString "thinstack.receiver") 391, code := Value.ref 250 } }
noncomputable def ho378 (P : Params) : Obj := { cls := Value.type "code", data := Data.fields #[Value.str (Str.ofString "read_place") 524, Value.str (Str.ofString "Receiver.read_place") 525, Value.str (Str.ofString "/claim/cut.py") 526, Value.int 199 0, Value.int 1 0, Value.int 0 0, Value.int 0 0, Value.int 3 0, Value.ref 252, Value.bool true, Value.int 181 0, Value.ref 253, Value.none, Value.ref 254, Value.ref 255, Value.ref 256, Value.int 529 0, Value.int 199 0, Value.str (Str.ofString "/claim/cut.py") 530] }
noncomputable def ho314 (P : Params) : Obj := { cls := Value.none, data := Data.func { name := Str.ofString "arrive", qualname := Str.ofString "Receiver.arrive", params := p195, body := FuncBody.stmts b195, scope := s195, globals := 0, closure := [], defaults := Value.none, kwdefaults := Value.none } }
noncomputable def ho282 (P : Params) : Obj := { cls := Value.type "tuple", data := Data.seq #[] }
noncomputable def ho346 (P : Params) : Obj := { cls := Value.none, data := Data.fields #[] }
noncomputable def ho394 (P : Params) : Obj := { cls := Value.type "tuple", data := Data.seq #[Value.str (Str.ofString "assembly") 548, Value.str (Str.ofString "fin_at") 549, Value.str (Str.ofString "has_fin") 550, Value.str (Str.ofString "mss") 551, Value.str (Str.ofString "next") 552, Value.str (Str.ofString "ready") 553, Value.str (Str.ofString "ring") 554, Value.str (Str.ofString "room") 555, Value.str (Str.ofString "told_edge") 556, Value.str (Str.ofString "urgent_at") 557] }
noncomputable def ho330 (P : Params) : Obj := { cls := Value.type "function", data := Data.func { name := Str.ofString "note_fin", qualname := Str.ofString "Receiver.note_fin", params := p209, body := FuncBody.stmts b209, scope := s209, globals := 3, closure := [], defaults := Value.none, kwdefaults := Value.none, pyModule := Value.str (Str.ofString "thinstack.receiver") 391, code := Value.ref 208 } }
noncomputable def ho298 (P : Params) : Obj := { cls := Value.type "tuple", data := Data.seq #[Value.str (Str.ofString "self") 435] }
noncomputable def ho362 (P : Params) : Obj := { cls := Value.type "tuple", data := Data.seq #[] }
noncomputable def ho386 (P : Params) : Obj := { cls := Value.type "function", data := Data.func { name := Str.ofString "urgent", qualname := Str.ofString "Receiver.urgent", params := p265, body := FuncBody.stmts b265, scope := s265, globals := 3, closure := [], defaults := Value.none, kwdefaults := Value.none, pyModule := Value.str (Str.ofString "thinstack.receiver") 391, code := Value.ref 264 } }
noncomputable def ho322 (P : Params) : Obj := { cls := Value.type "code", data := Data.fields #[Value.str (Str.ofString "let_in") 459, Value.str (Str.ofString "Receiver.let_in") 460, Value.str (Str.ofString "/claim/cut.py") 461, Value.int 158 0, Value.int 3 0, Value.int 0 0, Value.int 0 0, Value.int 3 0, Value.ref 196, Value.bool true, Value.int 181 0, Value.ref 197, Value.none, Value.ref 198, Value.ref 199, Value.ref 200, Value.int 466 0, Value.int 158 0, Value.str (Str.ofString "/claim/cut.py") 467] }
noncomputable def ho290 (P : Params) : Obj := { cls := Value.none, data := Data.fields #[] }
noncomputable def ho354 (P : Params) : Obj := { cls := Value.type "tuple", data := Data.seq #[Value.str (Str.ofString "self") 504] }
noncomputable def ho274 (P : Params) : Obj := { cls := Value.type "tuple", data := Data.seq #[Value.int 1 405] }
noncomputable def ho338 (P : Params) : Obj := { cls := Value.type "tuple", data := Data.seq #[] }
noncomputable def ho306 (P : Params) : Obj := { cls := Value.type "tuple", data := Data.seq #[] }
noncomputable def ho370 (P : Params) : Obj := { cls := Value.none, data := Data.func { name := Str.ofString "is_over", qualname := Str.ofString "Receiver.is_over", params := p251, body := FuncBody.stmts b251, scope := s251, globals := 0, closure := [], defaults := Value.none, kwdefaults := Value.none } }
noncomputable def ho382 (P : Params) : Obj := { cls := Value.type "tuple", data := Data.seq #[Value.str (Str.ofString "self") 535, Value.str (Str.ofString "pointer") 536] }
noncomputable def ho318 (P : Params) : Obj := { cls := Value.none, data := Data.fields #[] }
noncomputable def ho286 (P : Params) : Obj := { cls := Value.none, data := Data.func { name := Str.ofString "free_edge", qualname := Str.ofString "Receiver.free_edge", params := p167, body := FuncBody.stmts b167, scope := s167, globals := 0, closure := [], defaults := Value.none, kwdefaults := Value.none } }
noncomputable def ho350 (P : Params) : Obj := { cls := Value.type "code", data := Data.fields #[Value.str (Str.ofString "has_holes") 494, Value.str (Str.ofString "Receiver.has_holes") 495, Value.str (Str.ofString "/claim/cut.py") 496, Value.int 185 0, Value.int 1 0, Value.int 0 0, Value.int 0 0, Value.int 3 0, Value.ref 224, Value.bool true, Value.int 181 0, Value.ref 225, Value.none, Value.ref 226, Value.ref 227, Value.ref 228, Value.int 498 0, Value.int 185 0, Value.str (Str.ofString "/claim/cut.py") 499] }
noncomputable def ho270 (P : Params) : Obj := { cls := Value.type "tuple", data := Data.seq #[] }
noncomputable def ho398 (P : Params) : Obj := { cls := Value.type "getset_descriptor", data := Data.fields #[Value.str (Str.ofString "__weakref__") 561, Value.ref 275, Value.builtin "ExceptionGroup.__weakref__", Value.none] }
noncomputable def ho334 (P : Params) : Obj := { cls := Value.type "tuple", data := Data.seq #[] }
noncomputable def ho302 (P : Params) : Obj := { cls := Value.type "function", data := Data.func { name := Str.ofString "told_window", qualname := Str.ofString "Receiver.told_window", params := p181, body := FuncBody.stmts b181, scope := s181, globals := 3, closure := [], defaults := Value.none, kwdefaults := Value.none, pyModule := Value.str (Str.ofString "thinstack.receiver") 391, code := Value.ref 180 } }
noncomputable def ho366 (P : Params) : Obj := { cls := Value.type "tuple", data := Data.seq #[] }
noncomputable def ho390 (P : Params) : Obj := { cls := Value.type "tuple", data := Data.seq #[] }
noncomputable def ho326 (P : Params) : Obj := { cls := Value.type "tuple", data := Data.seq #[Value.str (Str.ofString "self") 472, Value.str (Str.ofString "place") 473] }
noncomputable def ho294 (P : Params) : Obj := { cls := Value.type "code", data := Data.fields #[Value.str (Str.ofString "should_tell") 424, Value.str (Str.ofString "Receiver.should_tell") 425, Value.str (Str.ofString "/claim/cut.py") 426, Value.int 131 0, Value.int 2 0, Value.int 0 0, Value.int 0 0, Value.int 3 0, Value.ref 168, Value.bool true, Value.int 181 0, Value.ref 169, Value.none, Value.ref 170, Value.ref 171, Value.ref 172, Value.int 429 0, Value.int 131 0, Value.str (Str.ofString "/claim/cut.py") 430] }
noncomputable def ho358 (P : Params) : Obj := { cls := Value.type "function", data := Data.func { name := Str.ofString "available", qualname := Str.ofString "Receiver.available", params := p237, body := FuncBody.stmts b237, scope := s237, globals := 3, closure := [], defaults := Value.none, kwdefaults := Value.none, pyModule := Value.str (Str.ofString "thinstack.receiver") 391, code := Value.ref 236 } }
noncomputable def ho278 (P : Params) : Obj := { cls := Value.type "tuple", data := Data.seq #[] }
noncomputable def ho342 (P : Params) : Obj := { cls := Value.none, data := Data.func { name := Str.ofString "gather", qualname := Str.ofString "Receiver.gather", params := p223, body := FuncBody.stmts b223, scope := s223, globals := 0, closure := [], defaults := Value.none, kwdefaults := Value.none } }
noncomputable def ho310 (P : Params) : Obj := { cls := Value.type "tuple", data := Data.seq #[] }
noncomputable def ho374 (P : Params) : Obj := { cls := Value.none, data := Data.fields #[] }
noncomputable def ho377 (P : Params) : Obj := { cls := Value.none, data := Data.func { name := Str.ofString "read_place", qualname := Str.ofString "Receiver.read_place", params := p258, body := FuncBody.stmts b258, scope := s258, globals := 0, closure := [], defaults := Value.none, kwdefaults := Value.none } }
noncomputable def ho313 (P : Params) : Obj := { cls := Value.type "tuple", data := Data.seq #[] }
noncomputable def ho281 (P : Params) : Obj := { cls := Value.type "function", data := Data.func { name := Str.ofString "__init__", qualname := Str.ofString "Receiver.__init__", params := p160, body := FuncBody.stmts b160, scope := s160, globals := 3, closure := [], defaults := Value.ref 153, kwdefaults := Value.none, pyModule := Value.str (Str.ofString "thinstack.receiver") 391, code := Value.ref 159 } }
noncomputable def ho345 (P : Params) : Obj := { cls := Value.type "tuple", data := Data.seq #[] }
noncomputable def ho393 (P : Params) : Obj := { cls := Value.type "function", data := Data.func { name := Str.ofString "urgent_left", qualname := Str.ofString "Receiver.urgent_left", params := p272, body := FuncBody.stmts b272, scope := s272, globals := 3, closure := [], defaults := Value.none, kwdefaults := Value.none, pyModule := Value.str (Str.ofString "thinstack.receiver") 391, code := Value.ref 271 } }
noncomputable def ho329 (P : Params) : Obj := { cls := Value.type "code", data := Data.fields #[Value.str (Str.ofString "note_fin") 469, Value.str (Str.ofString "Receiver.note_fin") 470, Value.str (Str.ofString "/claim/cut.py") 471, Value.int 164 0, Value.int 2 0, Value.int 0 0, Value.int 0 0, Value.int 3 0, Value.ref 203, Value.bool true, Value.int 181 0, Value.ref 204, Value.none, Value.ref 205, Value.ref 206, Value.ref 207, Value.int 474 0, Value.int 164 0, Value.str (Str.ofString "/claim/cut.py") 475] }
noncomputable def ho297 (P : Params) : Obj := { cls := Value.none, data := Data.fields #[] }
noncomputable def ho361 (P : Params) : Obj := { cls := Value.type "tuple", data := Data.seq #[Value.str (Str.ofString "self") 511, Value.str (Str.ofString "many") 512, Value.str (Str.ofString "found") 513] }
noncomputable def ho385 (P : Params) : Obj := { cls := Value.type "code", data := Data.fields #[Value.str (Str.ofString "urgent") 532, Value.str (Str.ofString "Receiver.urgent") 533, Value.str (Str.ofString "/claim/cut.py") 534, Value.int 203 0, Value.int 2 0, Value.int 0 0, Value.int 0 0, Value.int 3 0, Value.ref 259, Value.bool true, Value.int 181 0, Value.ref 260, Value.none, Value.ref 261, Value.ref 262, Value.ref 263, Value.int 537 0, Value.int 203 0, Value.str (Str.ofString "/claim/cut.py") 538] }
noncomputable def ho321 (P : Params) : Obj := { cls := Value.none, data := Data.func { name := Str.ofString "let_in", qualname := Str.ofString "Receiver.let_in", params := p202, body := FuncBody.stmts b202, scope := s202, globals := 0, closure := [], defaults := Value.none, kwdefaults := Value.none } }
noncomputable def ho289 (P : Params) : Obj := { cls := Value.type "tuple", data := Data.seq #[] }
noncomputable def ho353 (P : Params) : Obj := { cls := Value.none, data := Data.fields #[] }
noncomputable def ho273 (P : Params) : Obj := { cls := Value.type "frame", slots := #[some (Value.ref 151), some (Value.ref 3), some (Value.ref 148), none, some (Value.str (Str.ofString "thinstack.receiver") 391), none, some (Value.ref 0)] }
noncomputable def ho337 (P : Params) : Obj := { cls := Value.type "function", data := Data.func { name := Str.ofString "ahead_of_fin", qualname := Str.ofString "Receiver.ahead_of_fin", params := p216, body := FuncBody.stmts b216, scope := s216, globals := 3, closure := [], defaults := Value.none, kwdefaults := Value.none, pyModule := Value.str (Str.ofString "thinstack.receiver") 391, code := Value.ref 215 } }
noncomputable def ho305 (P : Params) : Obj := { cls := Value.type "tuple", data := Data.seq #[Value.str (Str.ofString "self") 442] }
noncomputable def ho369 (P : Params) : Obj := { cls := Value.type "tuple", data := Data.seq #[] }
noncomputable def ho266 (P : Params) : Obj := { cls := Value.none, data := Data.fields #[Value.int 1 0, Value.int 0 0, Value.ref 20, Value.int 5 0, Value.int 0 0, Value.ref 27, Value.int 7 0, Value.int 0 0, Value.ref 34, Value.int 9 0, Value.int 0 0, Value.ref 41, Value.int 12 0, Value.int 0 0, Value.ref 48, Value.int 15 0, Value.int 0 0, Value.ref 55, Value.int 114 0, Value.int 0 0, Value.ref 151] }
noncomputable def ho381 (P : Params) : Obj := { cls := Value.none, data := Data.fields #[] }
noncomputable def ho317 (P : Params) : Obj := { cls := Value.type "tuple", data := Data.seq #[] }
noncomputable def ho285 (P : Params) : Obj := { cls := Value.type "tuple", data := Data.seq #[] }
noncomputable def ho349 (P : Params) : Obj := { cls := Value.none, data := Data.func { name := Str.ofString "has_holes", qualname := Str.ofString "Receiver.has_holes", params := p230, body := FuncBody.stmts b230, scope := s230, globals := 0, closure := [], defaults := Value.none, kwdefaults := Value.none } }
noncomputable def ho269 (P : Params) : Obj := { cls := Value.type "dict", data := Data.dict #[{ hash := PyData.keyHash P (Str.ofString "__module__"), key := Value.str (Str.ofString "__module__") 400, val := Value.str (Str.ofString "thinstack.receiver") 391 }, { hash := PyData.keyHash P (Str.ofString "__qualname__"), key := Value.str (Str.ofString "__qualname__") 402, val := Value.str (Str.ofString "Receiver") 401 }, { hash := PyData.keyHash P (Str.ofString "__firstlineno__"), key := Value.str (Str.ofString "__firstlineno__") 404, val := Value.int 114 403 }, { hash := PyData.keyHash P (Str.ofString "__init__"), key := Value.str (Str.ofString "__init__") 416, val := Value.ref 160 }, { hash := PyData.keyHash P (Str.ofString "free_edge"), key := Value.str (Str.ofString "free_edge") 423, val := Value.ref 167 }, { hash := PyData.keyHash P (Str.ofString "should_tell"), key := Value.str (Str.ofString "should_tell") 431, val := Value.ref 174 }, { hash := PyData.keyHash P (Str.ofString "told_window"), key := Value.str (Str.ofString "told_window") 438, val := Value.ref 181 }, { hash := PyData.keyHash P (Str.ofString "window"), key := Value.str (Str.ofString "window") 445, val := Value.ref 188 }, { hash := PyData.keyHash P (Str.ofString "arrive"), key := Value.str (Str.ofString "arrive") 458, val := Value.ref 195 }, { hash := PyData.keyHash P (Str.ofString "let_in"), key := Value.str (Str.ofString "let_in") 468, val := Value.ref 202 }, { hash := PyData.keyHash P (Str.ofString "note_fin"), key := Value.str (Str.ofString "note_fin") 476, val := Value.ref 209 }, { hash := PyData.keyHash P (Str.ofString "ahead_of_fin"), key := Value.str (Str.ofString "ahead_of_fin") 485, val := Value.ref 216 }, { hash := PyData.keyHash P (Str.ofString "gather"), key := Value.str (Str.ofString "gather") 493, val := Value.ref 223 }, { hash := PyData.keyHash P (Str.ofString "has_holes"), key := Value.str (Str.ofString "has_holes") 500, val := Value.ref 230 }, { hash := PyData.keyHash P (Str.ofString "available"), key := Value.str (Str.ofString "available") 507, val := Value.ref 237 }, { hash := PyData.keyHash P (Str.ofString "read"), key := Value.str (Str.ofString "read") 516, val := Value.ref 244 }, { hash := PyData.keyHash P (Str.ofString "is_over"), key := Value.str (Str.ofString "is_over") 523, val := Value.ref 251 }, { hash := PyData.keyHash P (Str.ofString "read_place"), key := Value.str (Str.ofString "read_place") 531, val := Value.ref 258 }, { hash := PyData.keyHash P (Str.ofString "urgent"), key := Value.str (Str.ofString "urgent") 539, val := Value.ref 265 }, { hash := PyData.keyHash P (Str.ofString "urgent_left"), key := Value.str (Str.ofString "urgent_left") 547, val := Value.ref 272 }, { hash := PyData.keyHash P (Str.ofString "__static_attributes__"), key := Value.str (Str.ofString "__static_attributes__") 558, val := Value.ref 273 }] 21 }
noncomputable def ho397 (P : Params) : Obj := { cls := Value.type "getset_descriptor", data := Data.fields #[Value.str (Str.ofString "__dict__") 559, Value.ref 275, Value.builtin "function.__dict__", Value.builtin "function.__dict__#set"] }
noncomputable def ho333 (P : Params) : Obj := { cls := Value.type "tuple", data := Data.seq #[Value.str (Str.ofString "self") 480, Value.str (Str.ofString "seq") 481, Value.str (Str.ofString "octets") 482] }
noncomputable def ho301 (P : Params) : Obj := { cls := Value.type "code", data := Data.fields #[Value.str (Str.ofString "told_window") 432, Value.str (Str.ofString "Receiver.told_window") 433, Value.str (Str.ofString "/claim/cut.py") 434, Value.int 136 0, Value.int 1 0, Value.int 0 0, Value.int 0 0, Value.int 3 0, Value.ref 175, Value.bool true, Value.int 181 0, Value.ref 176, Value.none, Value.ref 177, Value.ref 178, Value.ref 179, Value.int 436 0, Value.int 136 0, Value.str (Str.ofString "/claim/cut.py") 437] }
noncomputable def ho365 (P : Params) : Obj := { cls := Value.type "function", data := Data.func { name := Str.ofString "read", qualname := Str.ofString "Receiver.read", params := p244, body := FuncBody.stmts b244, scope := s244, globals := 3, closure := [], defaults := Value.none, kwdefaults := Value.none, pyModule := Value.str (Str.ofString "thinstack.receiver") 391, code := Value.ref 243 } }
noncomputable def ho389 (P : Params) : Obj := { cls := Value.type "tuple", data := Data.seq #[Value.str (Str.ofString "self") 543, Value.str (Str.ofString "place") 544] }
noncomputable def ho325 (P : Params) : Obj := { cls := Value.none, data := Data.fields #[] }
noncomputable def ho293 (P : Params) : Obj := { cls := Value.none, data := Data.func { name := Str.ofString "should_tell", qualname := Str.ofString "Receiver.should_tell", params := p174, body := FuncBody.stmts b174, scope := s174, globals := 0, closure := [], defaults := Value.none, kwdefaults := Value.none } }
noncomputable def ho357 (P : Params) : Obj := { cls := Value.type "code", data := Data.fields #[Value.str (Str.ofString "available") 501, Value.str (Str.ofString "Receiver.available") 502, Value.str (Str.ofString "/claim/cut.py") 503, Value.int 188 0, Value.int 1 0, Value.int 0 0, Value.int 0 0, Value.int 3 0, Value.ref 231, Value.bool true, Value.int 181 0, Value.ref 232, Value.none, Value.ref 233, Value.ref 234, Value.ref 235, Value.int 505 0, Value.int 188 0, Value.str (Str.ofString "/claim/cut.py") 506] }
noncomputable def ho277 (P : Params) : Obj := { cls := Value.type "tuple", data := Data.seq #[Value.str (Str.ofString "self") 409, Value.str (Str.ofString "irs") 410, Value.str (Str.ofString "ring") 411, Value.str (Str.ofString "room") 412, Value.str (Str.ofString "mss") 413] }
noncomputable def ho341 (P : Params) : Obj := { cls := Value.type "tuple", data := Data.seq #[] }
noncomputable def ho309 (P : Params) : Obj := { cls := Value.type "function", data := Data.func { name := Str.ofString "window", qualname := Str.ofString "Receiver.window", params := p188, body := FuncBody.stmts b188, scope := s188, globals := 3, closure := [], defaults := Value.none, kwdefaults := Value.none, pyModule := Value.str (Str.ofString "thinstack.receiver") 391, code := Value.ref 187 } }
noncomputable def ho373 (P : Params) : Obj := { cls := Value.type "tuple", data := Data.seq #[] }
noncomputable def ho379 (P : Params) : Obj := { cls := Value.type "function", data := Data.func { name := Str.ofString "read_place", qualname := Str.ofString "Receiver.read_place", params := p258, body := FuncBody.stmts b258, scope := s258, globals := 3, closure := [], defaults := Value.none, kwdefaults := Value.none, pyModule := Value.str (Str.ofString "thinstack.receiver") 391, code := Value.ref 257 } }
noncomputable def ho315 (P : Params) : Obj := { cls := Value.type "code", data := Data.fields #[Value.str (Str.ofString "arrive") 446, Value.str (Str.ofString "Receiver.arrive") 447, Value.str (Str.ofString "/claim/cut.py") 448, Value.int 146 0, Value.int 4 0, Value.int 0 0, Value.int 0 0, Value.int 3 0, Value.ref 189, Value.bool true, Value.int 181 0, Value.ref 190, Value.none, Value.ref 191, Value.ref 192, Value.ref 193, Value.int 456 0, Value.int 146 0, Value.str (Str.ofString "/claim/cut.py") 457] }
noncomputable def ho283 (P : Params) : Obj := { cls := Value.none, data := Data.fields #[] }
noncomputable def ho347 (P : Params) : Obj := { cls := Value.type "tuple", data := Data.seq #[Value.str (Str.ofString "self") 497] }
noncomputable def ho267 (P : Params) : Obj := { cls := Value.type "tuple", data := Data.seq #[] }
noncomputable def ho395 (P : Params) : Obj := { cls := Value.type "dict", data := Data.dict #[{ hash := PyData.keyHash P (Str.ofString "__module__"), key := Value.str (Str.ofString "__module__") 400, val := Value.str (Str.ofString "thinstack.receiver") 391 }, { hash := PyData.keyHash P (Str.ofString "__firstlineno__"), key := Value.str (Str.ofString "__firstlineno__") 404, val := Value.int 114 403 }, { hash := PyData.keyHash P (Str.ofString "__init__"), key := Value.str (Str.ofString "__init__") 416, val := Value.ref 160 }, { hash := PyData.keyHash P (Str.ofString "free_edge"), key := Value.str (Str.ofString "free_edge") 423, val := Value.ref 167 }, { hash := PyData.keyHash P (Str.ofString "should_tell"), key := Value.str (Str.ofString "should_tell") 431, val := Value.ref 174 }, { hash := PyData.keyHash P (Str.ofString "told_window"), key := Value.str (Str.ofString "told_window") 438, val := Value.ref 181 }, { hash := PyData.keyHash P (Str.ofString "window"), key := Value.str (Str.ofString "window") 445, val := Value.ref 188 }, { hash := PyData.keyHash P (Str.ofString "arrive"), key := Value.str (Str.ofString "arrive") 458, val := Value.ref 195 }, { hash := PyData.keyHash P (Str.ofString "let_in"), key := Value.str (Str.ofString "let_in") 468, val := Value.ref 202 }, { hash := PyData.keyHash P (Str.ofString "note_fin"), key := Value.str (Str.ofString "note_fin") 476, val := Value.ref 209 }, { hash := PyData.keyHash P (Str.ofString "ahead_of_fin"), key := Value.str (Str.ofString "ahead_of_fin") 485, val := Value.ref 216 }, { hash := PyData.keyHash P (Str.ofString "gather"), key := Value.str (Str.ofString "gather") 493, val := Value.ref 223 }, { hash := PyData.keyHash P (Str.ofString "has_holes"), key := Value.str (Str.ofString "has_holes") 500, val := Value.ref 230 }, { hash := PyData.keyHash P (Str.ofString "available"), key := Value.str (Str.ofString "available") 507, val := Value.ref 237 }, { hash := PyData.keyHash P (Str.ofString "read"), key := Value.str (Str.ofString "read") 516, val := Value.ref 244 }, { hash := PyData.keyHash P (Str.ofString "is_over"), key := Value.str (Str.ofString "is_over") 523, val := Value.ref 251 }, { hash := PyData.keyHash P (Str.ofString "read_place"), key := Value.str (Str.ofString "read_place") 531, val := Value.ref 258 }, { hash := PyData.keyHash P (Str.ofString "urgent"), key := Value.str (Str.ofString "urgent") 539, val := Value.ref 265 }, { hash := PyData.keyHash P (Str.ofString "urgent_left"), key := Value.str (Str.ofString "urgent_left") 547, val := Value.ref 272 }, { hash := PyData.keyHash P (Str.ofString "__static_attributes__"), key := Value.str (Str.ofString "__static_attributes__") 558, val := Value.ref 273 }, { hash := PyData.keyHash P (Str.ofString "__dict__"), key := Value.str (Str.ofString "__dict__") 560, val := Value.ref 276 }, { hash := PyData.keyHash P (Str.ofString "__weakref__"), key := Value.str (Str.ofString "__weakref__") 562, val := Value.ref 277 }, { hash := PyData.keyHash P (Str.ofString "__doc__"), key := Value.str (Str.ofString "__doc__") 563, val := Value.none }] 4 }
noncomputable def ho331 (P : Params) : Obj := { cls := Value.type "tuple", data := Data.seq #[] }
noncomputable def ho299 (P : Params) : Obj := { cls := Value.type "tuple", data := Data.seq #[] }
noncomputable def ho363 (P : Params) : Obj := { cls := Value.none, data := Data.func { name := Str.ofString "read", qualname := Str.ofString "Receiver.read", params := p244, body := FuncBody.stmts b244, scope := s244, globals := 0, closure := [], defaults := Value.none, kwdefaults := Value.none } }
noncomputable def ho387 (P : Params) : Obj := { cls := Value.type "tuple", data := Data.seq #[] }
noncomputable def ho323 (P : Params) : Obj := { cls := Value.type "function", data := Data.func { name := Str.ofString "let_in", qualname := Str.ofString "Receiver.let_in", params := p202, body := FuncBody.stmts b202, scope := s202, globals := 3, closure := [], defaults := Value.none, kwdefaults := Value.none, pyModule := Value.str (Str.ofString "thinstack.receiver") 391, code := Value.ref 201 } }
noncomputable def ho291 (P : Params) : Obj := { cls := Value.type "tuple", data := Data.seq #[Value.str (Str.ofString "self") 427, Value.str (Str.ofString "mss") 428] }
noncomputable def ho355 (P : Params) : Obj := { cls := Value.type "tuple", data := Data.seq #[] }
noncomputable def ho275 (P : Params) : Obj := { cls := Value.type "tuple", data := Data.seq #[] }
noncomputable def ho339 (P : Params) : Obj := { cls := Value.none, data := Data.fields #[] }
noncomputable def ho307 (P : Params) : Obj := { cls := Value.none, data := Data.func { name := Str.ofString "window", qualname := Str.ofString "Receiver.window", params := p188, body := FuncBody.stmts b188, scope := s188, globals := 0, closure := [], defaults := Value.none, kwdefaults := Value.none } }
noncomputable def ho371 (P : Params) : Obj := { cls := Value.type "code", data := Data.fields #[Value.str (Str.ofString "is_over") 517, Value.str (Str.ofString "Receiver.is_over") 518, Value.str (Str.ofString "/claim/cut.py") 519, Value.int 196 0, Value.int 1 0, Value.int 0 0, Value.int 0 0, Value.int 3 0, Value.ref 245, Value.bool true, Value.int 181 0, Value.ref 246, Value.none, Value.ref 247, Value.ref 248, Value.ref 249, Value.int 521 0, Value.int 196 0, Value.str (Str.ofString "/claim/cut.py") 522] }
noncomputable def ho383 (P : Params) : Obj := { cls := Value.type "tuple", data := Data.seq #[] }
noncomputable def ho319 (P : Params) : Obj := { cls := Value.type "tuple", data := Data.seq #[Value.str (Str.ofString "self") 462, Value.str (Str.ofString "seq") 463, Value.str (Str.ofString "octets") 464, Value.str (Str.ofString "most") 465] }
noncomputable def ho287 (P : Params) : Obj := { cls := Value.type "code", data := Data.fields #[Value.str (Str.ofString "free_edge") 417, Value.str (Str.ofString "Receiver.free_edge") 418, Value.str (Str.ofString "/claim/cut.py") 419, Value.int 128 0, Value.int 1 0, Value.int 0 0, Value.int 0 0, Value.int 3 0, Value.ref 161, Value.bool true, Value.int 181 0, Value.ref 162, Value.none, Value.ref 163, Value.ref 164, Value.ref 165, Value.int 421 0, Value.int 128 0, Value.str (Str.ofString "/claim/cut.py") 422] }
noncomputable def ho351 (P : Params) : Obj := { cls := Value.type "function", data := Data.func { name := Str.ofString "has_holes", qualname := Str.ofString "Receiver.has_holes", params := p230, body := FuncBody.stmts b230, scope := s230, globals := 3, closure := [], defaults := Value.none, kwdefaults := Value.none, pyModule := Value.str (Str.ofString "thinstack.receiver") 391, code := Value.ref 229 } }
noncomputable def ho271 (P : Params) : Obj := { cls := Value.none, data := Data.fields #[Value.int 116 0, Value.int 4 0, Value.ref 159, Value.int 128 0, Value.int 4 0, Value.ref 166, Value.int 131 0, Value.int 4 0, Value.ref 173, Value.int 136 0, Value.int 4 0, Value.ref 180, Value.int 141 0, Value.int 4 0, Value.ref 187, Value.int 146 0, Value.int 4 0, Value.ref 194, Value.int 158 0, Value.int 4 0, Value.ref 201, Value.int 164 0, Value.int 4 0, Value.ref 208, Value.int 169 0, Value.int 4 0, Value.ref 215, Value.int 174 0, Value.int 4 0, Value.ref 222, Value.int 185 0, Value.int 4 0, Value.ref 229, Value.int 188 0, Value.int 4 0, Value.ref 236, Value.int 191 0, Value.int 4 0, Value.ref 243, Value.int 196 0, Value.int 4 0, Value.ref 250, Value.int 199 0, Value.int 4 0, Value.ref 257, Value.int 203 0, Value.int 4 0, Value.ref 264, Value.int 208 0, Value.int 4 0, Value.ref 271] }
noncomputable def ho399 (P : Params) : Obj := { cls := Value.type "super", data := Data.fields #[Value.ref 275, Value.ref 275, Value.ref 275] }
noncomputable def ho335 (P : Params) : Obj := { cls := Value.none, data := Data.func { name := Str.ofString "ahead_of_fin", qualname := Str.ofString "Receiver.ahead_of_fin", params := p216, body := FuncBody.stmts b216, scope := s216, globals := 0, closure := [], defaults := Value.none, kwdefaults := Value.none } }
noncomputable def ho303 (P : Params) : Obj := { cls := Value.type "tuple", data := Data.seq #[] }
noncomputable def ho367 (P : Params) : Obj := { cls := Value.none, data := Data.fields #[] }
noncomputable def ho391 (P : Params) : Obj := { cls := Value.none, data := Data.func { name := Str.ofString "urgent_left", qualname := Str.ofString "Receiver.urgent_left", params := p272, body := FuncBody.stmts b272, scope := s272, globals := 0, closure := [], defaults := Value.none, kwdefaults := Value.none } }
noncomputable def ho327 (P : Params) : Obj := { cls := Value.type "tuple", data := Data.seq #[] }
noncomputable def ho295 (P : Params) : Obj := { cls := Value.type "function", data := Data.func { name := Str.ofString "should_tell", qualname := Str.ofString "Receiver.should_tell", params := p174, body := FuncBody.stmts b174, scope := s174, globals := 3, closure := [], defaults := Value.none, kwdefaults := Value.none, pyModule := Value.str (Str.ofString "thinstack.receiver") 391, code := Value.ref 173 } }
noncomputable def ho359 (P : Params) : Obj := { cls := Value.type "tuple", data := Data.seq #[] }
noncomputable def ho279 (P : Params) : Obj := { cls := Value.none, data := Data.func { name := Str.ofString "__init__", qualname := Str.ofString "Receiver.__init__", params := p160, body := FuncBody.stmts b160, scope := s160, globals := 0, closure := [], defaults := Value.none, kwdefaults := Value.none } }
noncomputable def ho343 (P : Params) : Obj := { cls := Value.type "code", data := Data.fields #[Value.str (Str.ofString "gather") 486, Value.str (Str.ofString "Receiver.gather") 487, Value.str (Str.ofString "/claim/cut.py") 488, Value.int 174 0, Value.int 1 0, Value.int 0 0, Value.int 0 0, Value.int 3 0, Value.ref 217, Value.bool true, Value.int 181 0, Value.ref 218, Value.none, Value.ref 219, Value.ref 220, Value.ref 221, Value.int 491 0, Value.int 174 0, Value.str (Str.ofString "/claim/cut.py") 492] }
noncomputable def ho311 (P : Params) : Obj := { cls := Value.none, data := Data.fields #[] }
noncomputable def ho375 (P : Params) : Obj := { cls := Value.type "tuple", data := Data.seq #[Value.str (Str.ofString "self") 527, Value.str (Str.ofString "behind") 528] }
noncomputable def ho489 (P : Params) : Obj := { cls := Value.type "dict", data := Data.dict #[{ hash := PyData.keyHash P (Str.ofString "__name__"), key := Value.str (Str.ofString "__name__") 165, val := Value.str (Str.ofString "law_on0345_01") 566 }, { hash := PyData.keyHash P (Str.ofString "__doc__"), key := Value.str (Str.ofString "__doc__") 166, val := Value.none }, { hash := PyData.keyHash P (Str.ofString "__package__"), key := Value.str (Str.ofString "__package__") 167, val := Value.none }, { hash := PyData.keyHash P (Str.ofString "__loader__"), key := Value.str (Str.ofString "__loader__") 168, val := Value.builtin "__main__.__loader__#opaque" }, { hash := PyData.keyHash P (Str.ofString "__spec__"), key := Value.str (Str.ofString "__spec__") 169, val := Value.none }, { hash := PyData.keyHash P (Str.ofString "__annotations__"), key := Value.str (Str.ofString "__annotations__") 170, val := Value.ref 6 }, { hash := PyData.keyHash P (Str.ofString "__builtins__"), key := Value.str (Str.ofString "__builtins__") 171, val := Value.ref 4 }, { hash := PyData.keyHash P (Str.ofString "__file__"), key := Value.str (Str.ofString "__file__") 173, val := Value.str (Str.ofString "/claim/cut.py") 172 }, { hash := PyData.keyHash P (Str.ofString "__cached__"), key := Value.str (Str.ofString "__cached__") 174, val := Value.none }, { hash := PyData.keyHash P (Str.ofString "_wall"), key := Value.str (Str.ofString "_wall") 193, val := Value.ref 21 }, { hash := PyData.keyHash P (Str.ofString "plus"), key := Value.str (Str.ofString "plus") 204, val := Value.ref 28 }, { hash := PyData.keyHash P (Str.ofString "distance"), key := Value.str (Str.ofString "distance") 213, val := Value.ref 35 }, { hash := PyData.keyHash P (Str.ofString "is_before"), key := Value.str (Str.ofString "is_before") 223, val := Value.ref 42 }, { hash := PyData.keyHash P (Str.ofString "is_at_most"), key := Value.str (Str.ofString "is_at_most") 232, val := Value.ref 49 }, { hash := PyData.keyHash P (Str.ofString "Assembly"), key := Value.str (Str.ofString "Assembly") 390, val := Value.ref 141 }, { hash := PyData.keyHash P (Str.ofString "Receiver"), key := Value.str (Str.ofString "Receiver") 565, val := Value.ref 275 }, { hash := PyData.keyHash P (Str.ofString "_law_pool"), key := Value.str (Str.ofString "_law_pool") 578, val := Value.ref 286 }, { hash := PyData.keyHash P (Str.ofString "_law_take"), key := Value.str (Str.ofString "_law_take") 587, val := Value.ref 293 }, { hash := PyData.keyHash P (Str.ofString "_law_one"), key := Value.str (Str.ofString "_law_one") 595, val := Value.ref 300 }, { hash := PyData.keyHash P (Str.ofString "_law_arrived"), key := Value.str (Str.ofString "_law_arrived") 601, val := Value.ref 305 }, { hash := PyData.keyHash P (Str.ofString "_law_stands"), key := Value.str (Str.ofString "_law_stands") 615, val := Value.ref 312 }, { hash := PyData.keyHash P (Str.ofString "_law_read_right"), key := Value.str (Str.ofString "_law_read_right") 621, val := Value.ref 317 }, { hash := PyData.keyHash P (Str.ofString "law"), key := Value.str (Str.ofString "law") 627, val := Value.ref 322 }] 23 }
noncomputable def ho530 (P : Params) : Obj := { cls := Value.none, data := Data.fields #[] }
noncomputable def ho498 (P : Params) : Obj := { cls := Value.type "tuple", data := Data.seq #[] }
noncomputable def ho514 (P : Params) : Obj := { cls := Value.none, data := Data.func { name := Str.ofString "_law_arrived", qualname := Str.ofString "_law_arrived", params := p305, body := FuncBody.stmts b305, scope := s305, globals := 0, closure := [], defaults := Value.none, kwdefaults := Value.none } }
noncomputable def ho506 (P : Params) : Obj := { cls := Value.none, data := Data.fields #[] }
noncomputable def ho522 (P : Params) : Obj := { cls := Value.type "code", data := Data.fields #[Value.str (Str.ofString "_law_stands") 602, Value.str (Str.ofString "_law_stands") 603, Value.str (Str.ofString "/claim/cut.py") 604, Value.int 249 0, Value.int 5 0, Value.int 0 0, Value.int 0 0, Value.int 3 0, Value.ref 306, Value.bool true, Value.int 181 0, Value.ref 307, Value.none, Value.ref 308, Value.ref 309, Value.ref 310, Value.int 613 0, Value.int 249 0, Value.str (Str.ofString "/claim/cut.py") 614] }
noncomputable def ho502 (P : Params) : Obj := { cls := Value.none, data := Data.func { name := Str.ofString "_law_take", qualname := Str.ofString "_law_take", params := p293, body := FuncBody.stmts b293, scope := s293, globals := 0, closure := [], defaults := Value.none, kwdefaults := Value.none } }
noncomputable def ho518 (P : Params) : Obj := { cls := Value.none, data := Data.fields #[] }
noncomputable def ho510 (P : Params) : Obj := { cls := Value.type "code", data := Data.fields #[Value.str (Str.ofString "_law_one") 588, Value.str (Str.ofString "_law_one") 589, Value.str (Str.ofString "/claim/cut.py") 590, Value.int 231 0, Value.int 2 0, Value.int 0 0, Value.int 0 0, Value.int 3 0, Value.ref 294, Value.bool true, Value.int 181 0, Value.ref 295, Value.none, Value.ref 296, Value.ref 297, Value.ref 298, Value.int 593 0, Value.int 231 0, Value.str (Str.ofString "/claim/cut.py") 594] }
noncomputable def ho494 (P : Params) : Obj := { cls := Value.type "tuple", data := Data.seq #[] }
noncomputable def ho526 (P : Params) : Obj := { cls := Value.none, data := Data.func { name := Str.ofString "_law_read_right", qualname := Str.ofString "_law_read_right", params := p317, body := FuncBody.stmts b317, scope := s317, globals := 0, closure := [], defaults := Value.none, kwdefaults := Value.none } }
noncomputable def ho532 (P : Params) : Obj := { cls := Value.type "code", data := Data.fields #[Value.str (Str.ofString "law") 622, Value.str (Str.ofString "law") 623, Value.str (Str.ofString "/claim/cut.py") 624, Value.int 265 0, Value.int 1 0, Value.int 0 0, Value.int 0 0, Value.int 3 0, Value.ref 318, Value.bool true, Value.int 181 0, Value.ref 319, Value.none, Value.none, Value.none, Value.ref 320, Value.int 625 0, Value.int 265 0, Value.str (Str.ofString "/claim/cut.py") 626] }
noncomputable def ho500 (P : Params) : Obj := { cls := Value.type "tuple", data := Data.seq #[Value.str (Str.ofString "source") 582, Value.str (Str.ofString "top") 583, Value.str (Str.ofString "figure") 584] }
noncomputable def ho516 (P : Params) : Obj := { cls := Value.type "function", data := Data.func { name := Str.ofString "_law_arrived", qualname := Str.ofString "_law_arrived", params := p305, body := FuncBody.stmts b305, scope := s305, globals := 3, closure := [], defaults := Value.none, kwdefaults := Value.none, pyModule := Value.str (Str.ofString "law_on0345_01") 566, code := Value.ref 304 } }
noncomputable def ho508 (P : Params) : Obj := { cls := Value.type "tuple", data := Data.seq #[] }
noncomputable def ho492 (P : Params) : Obj := { cls := Value.none, data := Data.fields #[] }
noncomputable def ho524 (P : Params) : Obj := { cls := Value.type "tuple", data := Data.seq #[] }
noncomputable def ho504 (P : Params) : Obj := { cls := Value.type "function", data := Data.func { name := Str.ofString "_law_take", qualname := Str.ofString "_law_take", params := p293, body := FuncBody.stmts b293, scope := s293, globals := 3, closure := [], defaults := Value.none, kwdefaults := Value.none, pyModule := Value.str (Str.ofString "law_on0345_01") 566, code := Value.ref 292 } }
noncomputable def ho520 (P : Params) : Obj := { cls := Value.type "tuple", data := Data.seq #[] }
noncomputable def ho512 (P : Params) : Obj := { cls := Value.type "tuple", data := Data.seq #[] }
noncomputable def ho496 (P : Params) : Obj := { cls := Value.type "code", data := Data.fields #[Value.str (Str.ofString "_law_pool") 568, Value.str (Str.ofString "_law_pool") 569, Value.str (Str.ofString "/claim/cut.py") 570, Value.int 217 0, Value.int 2 0, Value.int 0 0, Value.int 0 0, Value.int 3 0, Value.ref 280, Value.bool true, Value.int 181 0, Value.ref 281, Value.none, Value.ref 282, Value.ref 283, Value.ref 284, Value.int 576 0, Value.int 217 0, Value.str (Str.ofString "/claim/cut.py") 577] }
noncomputable def ho528 (P : Params) : Obj := { cls := Value.type "function", data := Data.func { name := Str.ofString "_law_read_right", qualname := Str.ofString "_law_read_right", params := p317, body := FuncBody.stmts b317, scope := s317, globals := 3, closure := [], defaults := Value.none, kwdefaults := Value.none, pyModule := Value.str (Str.ofString "law_on0345_01") 566, code := Value.ref 316 } }
noncomputable def ho531 (P : Params) : Obj := { cls := Value.none, data := Data.func { name := Str.ofString "law", qualname := Str.ofString "law", params := p322, body := FuncBody.stmts b322, scope := s322, globals := 0, closure := [], defaults := Value.none, kwdefaults := Value.none } }
noncomputable def ho499 (P : Params) : Obj := { cls := Value.none, data := Data.fields #[] }
noncomputable def ho515 (P : Params) : Obj := { cls := Value.type "code", data := Data.fields #[Value.str (Str.ofString "_law_arrived") 596, Value.str (Str.ofString "_law_arrived") 597, Value.str (Str.ofString "/claim/cut.py") 598, Value.int 233 0, Value.int 4 0, Value.int 0 0, Value.int 0 0, Value.int 3 0, Value.ref 301, Value.bool true, Value.int 181 0, Value.ref 302, Value.none, Value.none, Value.none, Value.ref 303, Value.int 599 0, Value.int 233 0, Value.str (Str.ofString "/claim/cut.py") 600] }
noncomputable def ho507 (P : Params) : Obj := { cls := Value.type "tuple", data := Data.seq #[Value.str (Str.ofString "source") 591, Value.str (Str.ofString "things") 592] }
noncomputable def ho491 (P : Params) : Obj := { cls := Value.type "tuple", data := Data.seq #[] }
noncomputable def ho523 (P : Params) : Obj := { cls := Value.type "function", data := Data.func { name := Str.ofString "_law_stands", qualname := Str.ofString "_law_stands", params := p312, body := FuncBody.stmts b312, scope := s312, globals := 3, closure := [], defaults := Value.none, kwdefaults := Value.none, pyModule := Value.str (Str.ofString "law_on0345_01") 566, code := Value.ref 311 } }
noncomputable def ho490 (P : Params) : Obj := { cls := Value.none, data := Data.fields #[Value.int 1 0, Value.int 0 0, Value.ref 20, Value.int 5 0, Value.int 0 0, Value.ref 27, Value.int 7 0, Value.int 0 0, Value.ref 34, Value.int 9 0, Value.int 0 0, Value.ref 41, Value.int 12 0, Value.int 0 0, Value.ref 48, Value.int 15 0, Value.int 0 0, Value.ref 55, Value.int 114 0, Value.int 0 0, Value.ref 151, Value.int 217 0, Value.int 0 0, Value.ref 285, Value.int 222 0, Value.int 0 0, Value.ref 292, Value.int 231 0, Value.int 0 0, Value.ref 299, Value.int 233 0, Value.int 0 0, Value.ref 304, Value.int 249 0, Value.int 0 0, Value.ref 311, Value.int 260 0, Value.int 0 0, Value.ref 316, Value.int 265 0, Value.int 0 0, Value.ref 321] }
noncomputable def ho503 (P : Params) : Obj := { cls := Value.type "code", data := Data.fields #[Value.str (Str.ofString "_law_take") 579, Value.str (Str.ofString "_law_take") 580, Value.str (Str.ofString "/claim/cut.py") 581, Value.int 222 0, Value.int 2 0, Value.int 0 0, Value.int 0 0, Value.int 3 0, Value.ref 287, Value.bool true, Value.int 181 0, Value.ref 288, Value.none, Value.ref 289, Value.ref 290, Value.ref 291, Value.int 585 0, Value.int 222 0, Value.str (Str.ofString "/claim/cut.py") 586] }
noncomputable def ho519 (P : Params) : Obj := { cls := Value.type "tuple", data := Data.seq #[Value.str (Str.ofString "receiver") 605, Value.str (Str.ofString "book") 606, Value.str (Str.ofString "base") 607, Value.str (Str.ofString "ring") 608, Value.str (Str.ofString "room") 609, Value.str (Str.ofString "number") 610, Value.str (Str.ofString "left") 611, Value.str (Str.ofString "told") 612] }
noncomputable def ho511 (P : Params) : Obj := { cls := Value.type "function", data := Data.func { name := Str.ofString "_law_one", qualname := Str.ofString "_law_one", params := p0, body := FuncBody.stmts b0, scope := s0, globals := 3, closure := [], defaults := Value.none, kwdefaults := Value.none, pyModule := Value.str (Str.ofString "law_on0345_01") 566, code := Value.ref 299 } }
noncomputable def ho495 (P : Params) : Obj := { cls := Value.none, data := Data.func { name := Str.ofString "_law_pool", qualname := Str.ofString "_law_pool", params := p286, body := FuncBody.stmts b286, scope := s286, globals := 0, closure := [], defaults := Value.none, kwdefaults := Value.none } }
noncomputable def ho527 (P : Params) : Obj := { cls := Value.type "code", data := Data.fields #[Value.str (Str.ofString "_law_read_right") 616, Value.str (Str.ofString "_law_read_right") 617, Value.str (Str.ofString "/claim/cut.py") 618, Value.int 260 0, Value.int 3 0, Value.int 0 0, Value.int 0 0, Value.int 3 0, Value.ref 313, Value.bool true, Value.int 181 0, Value.ref 314, Value.none, Value.none, Value.none, Value.ref 315, Value.int 619 0, Value.int 260 0, Value.str (Str.ofString "/claim/cut.py") 620] }
noncomputable def ho533 (P : Params) : Obj := { cls := Value.type "function", data := Data.func { name := Str.ofString "law", qualname := Str.ofString "law", params := p322, body := FuncBody.stmts b322, scope := s322, globals := 3, closure := [], defaults := Value.none, kwdefaults := Value.none, pyModule := Value.str (Str.ofString "law_on0345_01") 566, code := Value.ref 321 } }
noncomputable def ho501 (P : Params) : Obj := { cls := Value.type "tuple", data := Data.seq #[] }
noncomputable def ho517 (P : Params) : Obj := { cls := Value.type "tuple", data := Data.seq #[] }
noncomputable def ho509 (P : Params) : Obj := { cls := Value.none, data := Data.func { name := Str.ofString "_law_one", qualname := Str.ofString "_law_one", params := p0, body := FuncBody.stmts b0, scope := s0, globals := 0, closure := [], defaults := Value.none, kwdefaults := Value.none } }
noncomputable def ho493 (P : Params) : Obj := { cls := Value.type "tuple", data := Data.seq #[Value.str (Str.ofString "script") 571, Value.str (Str.ofString "row") 572, Value.str (Str.ofString "cell") 573, Value.str (Str.ofString "big") 574, Value.str (Str.ofString "blend") 575] }
noncomputable def ho525 (P : Params) : Obj := { cls := Value.none, data := Data.fields #[] }
noncomputable def ho505 (P : Params) : Obj := { cls := Value.type "tuple", data := Data.seq #[] }
noncomputable def ho521 (P : Params) : Obj := { cls := Value.none, data := Data.func { name := Str.ofString "_law_stands", qualname := Str.ofString "_law_stands", params := p312, body := FuncBody.stmts b312, scope := s312, globals := 0, closure := [], defaults := Value.none, kwdefaults := Value.none } }
noncomputable def ho513 (P : Params) : Obj := { cls := Value.none, data := Data.fields #[] }
noncomputable def ho497 (P : Params) : Obj := { cls := Value.type "function", data := Data.func { name := Str.ofString "_law_pool", qualname := Str.ofString "_law_pool", params := p286, body := FuncBody.stmts b286, scope := s286, globals := 3, closure := [], defaults := Value.none, kwdefaults := Value.none, pyModule := Value.str (Str.ofString "law_on0345_01") 566, code := Value.ref 285 } }
noncomputable def ho529 (P : Params) : Obj := { cls := Value.type "tuple", data := Data.seq #[] }
noncomputable def tr47 (P : Params) : BT := bn (boot_o_0 P) (bn (boot_o_1 P) (bn (boot_o_3 P) (bn (boot_o_7 P) bx bx) (bn (ho43 P) bx bx)) (bn (boot_o_5 P) (bn (boot_o_9 P) bx bx) (bn (ho45 P) bx bx))) (bn (boot_o_2 P) (bn (boot_o_4 P) (bn (boot_o_8 P) bx bx) (bn (ho44 P) bx bx)) (bn (boot_o_6 P) (bn (boot_o_10 P) bx bx) (bn (ho46 P) bx bx)))
noncomputable def tr85 (P : Params) : BT := bn (boot_o_0 P) (bn (boot_o_1 P) (bn (ho49 P) (bn (boot_o_7 P) (bn (ho51 P) (bn (ho67 P) bx bx) (bn (ho83 P) bx bx)) (bn (ho59 P) (bn (ho75 P) bx bx) bx)) (bn (ho43 P) (bn (ho55 P) (bn (ho71 P) bx bx) bx) (bn (ho63 P) (bn (ho79 P) bx bx) bx))) (bn (boot_o_5 P) (bn (boot_o_9 P) (bn (ho53 P) (bn (ho69 P) bx bx) (bn (ho85 P) bx bx)) (bn (ho61 P) (bn (ho77 P) bx bx) bx)) (bn (ho45 P) (bn (ho57 P) (bn (ho73 P) bx bx) bx) (bn (ho65 P) (bn (ho81 P) bx bx) bx)))) (bn (boot_o_2 P) (bn (boot_o_4 P) (bn (boot_o_8 P) (bn (ho52 P) (bn (ho68 P) bx bx) (bn (ho84 P) bx bx)) (bn (ho60 P) (bn (ho76 P) bx bx) bx)) (bn (ho50 P) (bn (ho56 P) (bn (ho72 P) bx bx) bx) (bn (ho64 P) (bn (ho80 P) bx bx) bx))) (bn (boot_o_6 P) (bn (boot_o_10 P) (bn (ho54 P) (bn (ho70 P) bx bx) bx) (bn (ho62 P) (bn (ho78 P) bx bx) bx)) (bn (ho46 P) (bn (ho58 P) (bn (ho74 P) bx bx) bx) (bn (ho66 P) (bn (ho82 P) bx bx) bx))))
noncomputable def tr183 (P : Params) : BT := bn (boot_o_0 P) (bn (boot_o_1 P) (bn (ho86 P) (bn (boot_o_7 P) (bn (ho51 P) (bn (ho67 P) (bn (ho101 P) (bn (ho165 P) bx bx) bx) (bn (ho133 P) bx bx)) (bn (ho83 P) (bn (ho117 P) (bn (ho181 P) bx bx) bx) (bn (ho149 P) bx bx))) (bn (ho59 P) (bn (ho75 P) (bn (ho109 P) (bn (ho173 P) bx bx) bx) (bn (ho141 P) bx bx)) (bn (ho93 P) (bn (ho125 P) bx bx) (bn (ho157 P) bx bx)))) (bn (ho43 P) (bn (ho55 P) (bn (ho71 P) (bn (ho105 P) (bn (ho169 P) bx bx) bx) (bn (ho137 P) bx bx)) (bn (ho89 P) (bn (ho121 P) bx bx) (bn (ho153 P) bx bx))) (bn (ho63 P) (bn (ho79 P) (bn (ho113 P) (bn (ho177 P) bx bx) bx) (bn (ho145 P) bx bx)) (bn (ho97 P) (bn (ho129 P) bx bx) (bn (ho161 P) bx bx))))) (bn (boot_o_5 P) (bn (boot_o_9 P) (bn (ho53 P) (bn (ho69 P) (bn (ho103 P) (bn (ho167 P) bx bx) bx) (bn (ho135 P) bx bx)) (bn (ho85 P) (bn (ho119 P) (bn (ho183 P) bx bx) bx) (bn (ho151 P) bx bx))) (bn (ho61 P) (bn (ho77 P) (bn (ho111 P) (bn (ho175 P) bx bx) bx) (bn (ho143 P) bx bx)) (bn (ho95 P) (bn (ho127 P) bx bx) (bn (ho159 P) bx bx)))) (bn (ho45 P) (bn (ho57 P) (bn (ho73 P) (bn (ho107 P) (bn (ho171 P) bx bx) bx) (bn (ho139 P) bx bx)) (bn (ho91 P) (bn (ho123 P) bx bx) (bn (ho155 P) bx bx))) (bn (ho65 P) (bn (ho81 P) (bn (ho115 P) (bn (ho179 P) bx bx) bx) (bn (ho147 P) bx bx)) (bn (ho99 P) (bn (ho131 P) bx bx) (bn (ho163 P) bx bx)))))) (bn (boot_o_2 P) (bn (boot_o_4 P) (bn (boot_o_8 P) (bn (ho52 P) (bn (ho68 P) (bn (ho102 P) (bn (ho166 P) bx bx) bx) (bn (ho134 P) bx bx)) (bn (ho84 P) (bn (ho118 P) (bn (ho182 P) bx bx) bx) (bn (ho150 P) bx bx))) (bn (ho60 P) (bn (ho76 P) (bn (ho110 P) (bn (ho174 P) bx bx) bx) (bn (ho142 P) bx bx)) (bn (ho94 P) (bn (ho126 P) bx bx) (bn (ho158 P) bx bx)))) (bn (ho87 P) (bn (ho56 P) (bn (ho72 P) (bn (ho106 P) (bn (ho170 P) bx bx) bx) (bn (ho138 P) bx bx)) (bn (ho90 P) (bn (ho122 P) bx bx) (bn (ho154 P) bx bx))) (bn (ho64 P) (bn (ho80 P) (bn (ho114 P) (bn (ho178 P) bx bx) bx) (bn (ho146 P) bx bx)) (bn (ho98 P) (bn (ho130 P) bx bx) (bn (ho162 P) bx bx))))) (bn (boot_o_6 P) (bn (boot_o_10 P) (bn (ho54 P) (bn (ho70 P) (bn (ho104 P) (bn (ho168 P) bx bx) bx) (bn (ho136 P) bx bx)) (bn (ho88 P) (bn (ho120 P) bx bx) (bn (ho152 P) bx bx))) (bn (ho62 P) (bn (ho78 P) (bn (ho112 P) (bn (ho176 P) bx bx) bx) (bn (ho144 P) bx bx)) (bn (ho96 P) (bn (ho128 P) bx bx) (bn (ho160 P) bx bx)))) (bn (ho46 P) (bn (ho58 P) (bn (ho74 P) (bn (ho108 P) (bn (ho172 P) bx bx) bx) (bn (ho140 P) bx bx)) (bn (ho92 P) (bn (ho124 P) bx bx) (bn (ho156 P) bx bx))) (bn (ho66 P) (bn (ho82 P) (bn (ho116 P) (bn (ho180 P) bx bx) bx) (bn (ho148 P) bx bx)) (bn (ho100 P) (bn (ho132 P) bx bx) (bn (ho164 P) bx bx))))))
noncomputable def tr263 (P : Params) : BT := bn (boot_o_0 P) (bn (boot_o_1 P) (bn (ho263 P) (bn (boot_o_7 P) (bn (ho51 P) (bn (ho67 P) (bn (ho101 P) (bn (ho165 P) bx bx) bx) (bn (ho133 P) bx bx)) (bn (ho83 P) (bn (ho117 P) (bn (ho181 P) bx bx) bx) (bn (ho149 P) bx bx))) (bn (ho59 P) (bn (ho75 P) (bn (ho109 P) (bn (ho173 P) bx bx) bx) (bn (ho141 P) bx bx)) (bn (ho93 P) (bn (ho125 P) bx bx) (bn (ho157 P) bx bx)))) (bn (ho43 P) (bn (ho55 P) (bn (ho71 P) (bn (ho105 P) (bn (ho169 P) bx bx) bx) (bn (ho137 P) bx bx)) (bn (ho89 P) (bn (ho121 P) bx bx) (bn (ho153 P) bx bx))) (bn (ho63 P) (bn (ho79 P) (bn (ho113 P) (bn (ho177 P) bx bx) bx) (bn (ho145 P) bx bx)) (bn (ho97 P) (bn (ho129 P) bx bx) (bn (ho161 P) bx bx))))) (bn (boot_o_5 P) (bn (boot_o_9 P) (bn (ho53 P) (bn (ho69 P) (bn (ho103 P) (bn (ho167 P) bx bx) bx) (bn (ho135 P) bx bx)) (bn (ho85 P) (bn (ho119 P) (bn (ho183 P) bx bx) bx) (bn (ho151 P) bx bx))) (bn (ho61 P) (bn (ho77 P) (bn (ho111 P) (bn (ho175 P) bx bx) bx) (bn (ho143 P) bx bx)) (bn (ho95 P) (bn (ho127 P) bx bx) (bn (ho159 P) bx bx)))) (bn (ho45 P) (bn (ho57 P) (bn (ho73 P) (bn (ho107 P) (bn (ho171 P) bx bx) bx) (bn (ho139 P) bx bx)) (bn (ho91 P) (bn (ho123 P) bx bx) (bn (ho155 P) bx bx))) (bn (ho65 P) (bn (ho81 P) (bn (ho115 P) (bn (ho179 P) bx bx) bx) (bn (ho147 P) bx bx)) (bn (ho99 P) (bn (ho131 P) bx bx) (bn (ho163 P) bx bx)))))) (bn (boot_o_2 P) (bn (boot_o_4 P) (bn (boot_o_8 P) (bn (ho52 P) (bn (ho68 P) (bn (ho102 P) (bn (ho166 P) bx bx) bx) (bn (ho134 P) bx bx)) (bn (ho84 P) (bn (ho118 P) (bn (ho182 P) bx bx) bx) (bn (ho150 P) bx bx))) (bn (ho60 P) (bn (ho76 P) (bn (ho110 P) (bn (ho174 P) bx bx) bx) (bn (ho142 P) bx bx)) (bn (ho94 P) (bn (ho126 P) bx bx) (bn (ho158 P) bx bx)))) (bn (ho87 P) (bn (ho56 P) (bn (ho72 P) (bn (ho106 P) (bn (ho170 P) bx bx) bx) (bn (ho138 P) bx bx)) (bn (ho90 P) (bn (ho122 P) bx bx) (bn (ho154 P) bx bx))) (bn (ho64 P) (bn (ho80 P) (bn (ho114 P) (bn (ho178 P) bx bx) bx) (bn (ho146 P) bx bx)) (bn (ho98 P) (bn (ho130 P) bx bx) (bn (ho162 P) bx bx))))) (bn (boot_o_6 P) (bn (boot_o_10 P) (bn (ho54 P) (bn (ho70 P) (bn (ho104 P) (bn (ho168 P) bx bx) bx) (bn (ho136 P) bx bx)) (bn (ho88 P) (bn (ho120 P) bx bx) (bn (ho152 P) bx bx))) (bn (ho62 P) (bn (ho78 P) (bn (ho112 P) (bn (ho176 P) bx bx) bx) (bn (ho144 P) bx bx)) (bn (ho96 P) (bn (ho128 P) bx bx) (bn (ho160 P) bx bx)))) (bn (ho46 P) (bn (ho58 P) (bn (ho74 P) (bn (ho108 P) (bn (ho172 P) bx bx) bx) (bn (ho140 P) bx bx)) (bn (ho92 P) (bn (ho124 P) bx bx) (bn (ho156 P) bx bx))) (bn (ho66 P) (bn (ho82 P) (bn (ho116 P) (bn (ho180 P) bx bx) bx) (bn (ho148 P) bx bx)) (bn (ho100 P) (bn (ho132 P) bx bx) (bn (ho164 P) bx bx))))))
noncomputable def tr400 (P : Params) : BT := bn (boot_o_0 P) (bn (boot_o_1 P) (bn (ho265 P) (bn (boot_o_7 P) (bn (ho51 P) (bn (ho67 P) (bn (ho101 P) (bn (ho165 P) (bn (ho376 P) bx bx) bx) (bn (ho312 P) bx bx)) (bn (ho133 P) (bn (ho280 P) bx bx) (bn (ho344 P) bx bx))) (bn (ho83 P) (bn (ho117 P) (bn (ho181 P) (bn (ho392 P) bx bx) bx) (bn (ho328 P) bx bx)) (bn (ho149 P) (bn (ho296 P) bx bx) (bn (ho360 P) bx bx)))) (bn (ho59 P) (bn (ho75 P) (bn (ho109 P) (bn (ho173 P) (bn (ho384 P) bx bx) bx) (bn (ho320 P) bx bx)) (bn (ho141 P) (bn (ho288 P) bx bx) (bn (ho352 P) bx bx))) (bn (ho93 P) (bn (ho125 P) (bn (ho272 P) (bn (ho400 P) bx bx) bx) (bn (ho336 P) bx bx)) (bn (ho157 P) (bn (ho304 P) bx bx) (bn (ho368 P) bx bx))))) (bn (ho43 P) (bn (ho55 P) (bn (ho71 P) (bn (ho105 P) (bn (ho169 P) (bn (ho380 P) bx bx) bx) (bn (ho316 P) bx bx)) (bn (ho137 P) (bn (ho284 P) bx bx) (bn (ho348 P) bx bx))) (bn (ho89 P) (bn (ho121 P) (bn (ho268 P) (bn (ho396 P) bx bx) bx) (bn (ho332 P) bx bx)) (bn (ho153 P) (bn (ho300 P) bx bx) (bn (ho364 P) bx bx)))) (bn (ho63 P) (bn (ho79 P) (bn (ho113 P) (bn (ho177 P) (bn (ho388 P) bx bx) bx) (bn (ho324 P) bx bx)) (bn (ho145 P) (bn (ho292 P) bx bx) (bn (ho356 P) bx bx))) (bn (ho97 P) (bn (ho129 P) (bn (ho276 P) bx bx) (bn (ho340 P) bx bx)) (bn (ho161 P) (bn (ho308 P) bx bx) (bn (ho372 P) bx bx)))))) (bn (boot_o_5 P) (bn (boot_o_9 P) (bn (ho53 P) (bn (ho69 P) (bn (ho103 P) (bn (ho167 P) (bn (ho378 P) bx bx) bx) (bn (ho314 P) bx bx)) (bn (ho135 P) (bn (ho282 P) bx bx) (bn (ho346 P) bx bx))) (bn (ho85 P) (bn (ho119 P) (bn (ho183 P) (bn (ho394 P) bx bx) bx) (bn (ho330 P) bx bx)) (bn (ho151 P) (bn (ho298 P) bx bx) (bn (ho362 P) bx bx)))) (bn (ho61 P) (bn (ho77 P) (bn (ho111 P) (bn (ho175 P) (bn (ho386 P) bx bx) bx) (bn (ho322 P) bx bx)) (bn (ho143 P) (bn (ho290 P) bx bx) (bn (ho354 P) bx bx))) (bn (ho95 P) (bn (ho127 P) (bn (ho274 P) bx bx) (bn (ho338 P) bx bx)) (bn (ho159 P) (bn (ho306 P) bx bx) (bn (ho370 P) bx bx))))) (bn (ho45 P) (bn (ho57 P) (bn (ho73 P) (bn (ho107 P) (bn (ho171 P) (bn (ho382 P) bx bx) bx) (bn (ho318 P) bx bx)) (bn (ho139 P) (bn (ho286 P) bx bx) (bn (ho350 P) bx bx))) (bn (ho91 P) (bn (ho123 P) (bn (ho270 P) (bn (ho398 P) bx bx) bx) (bn (ho334 P) bx bx)) (bn (ho155 P) (bn (ho302 P) bx bx) (bn (ho366 P) bx bx)))) (bn (ho65 P) (bn (ho81 P) (bn (ho115 P) (bn (ho179 P) (bn (ho390 P) bx bx) bx) (bn (ho326 P) bx bx)) (bn (ho147 P) (bn (ho294 P) bx bx) (bn (ho358 P) bx bx))) (bn (ho99 P) (bn (ho131 P) (bn (ho278 P) bx bx) (bn (ho342 P) bx bx)) (bn (ho163 P) (bn (ho310 P) bx bx) (bn (ho374 P) bx bx))))))) (bn (boot_o_2 P) (bn (boot_o_4 P) (bn (boot_o_8 P) (bn (ho52 P) (bn (ho68 P) (bn (ho102 P) (bn (ho166 P) (bn (ho377 P) bx bx) bx) (bn (ho313 P) bx bx)) (bn (ho134 P) (bn (ho281 P) bx bx) (bn (ho345 P) bx bx))) (bn (ho84 P) (bn (ho118 P) (bn (ho182 P) (bn (ho393 P) bx bx) bx) (bn (ho329 P) bx bx)) (bn (ho150 P) (bn (ho297 P) bx bx) (bn (ho361 P) bx bx)))) (bn (ho60 P) (bn (ho76 P) (bn (ho110 P) (bn (ho174 P) (bn (ho385 P) bx bx) bx) (bn (ho321 P) bx bx)) (bn (ho142 P) (bn (ho289 P) bx bx) (bn (ho353 P) bx bx))) (bn (ho94 P) (bn (ho126 P) (bn (ho273 P) bx bx) (bn (ho337 P) bx bx)) (bn (ho158 P) (bn (ho305 P) bx bx) (bn (ho369 P) bx bx))))) (bn (ho266 P) (bn (ho56 P) (bn (ho72 P) (bn (ho106 P) (bn (ho170 P) (bn (ho381 P) bx bx) bx) (bn (ho317 P) bx bx)) (bn (ho138 P) (bn (ho285 P) bx bx) (bn (ho349 P) bx bx))) (bn (ho90 P) (bn (ho122 P) (bn (ho269 P) (bn (ho397 P) bx bx) bx) (bn (ho333 P) bx bx)) (bn (ho154 P) (bn (ho301 P) bx bx) (bn (ho365 P) bx bx)))) (bn (ho64 P) (bn (ho80 P) (bn (ho114 P) (bn (ho178 P) (bn (ho389 P) bx bx) bx) (bn (ho325 P) bx bx)) (bn (ho146 P) (bn (ho293 P) bx bx) (bn (ho357 P) bx bx))) (bn (ho98 P) (bn (ho130 P) (bn (ho277 P) bx bx) (bn (ho341 P) bx bx)) (bn (ho162 P) (bn (ho309 P) bx bx) (bn (ho373 P) bx bx)))))) (bn (boot_o_6 P) (bn (boot_o_10 P) (bn (ho54 P) (bn (ho70 P) (bn (ho104 P) (bn (ho168 P) (bn (ho379 P) bx bx) bx) (bn (ho315 P) bx bx)) (bn (ho136 P) (bn (ho283 P) bx bx) (bn (ho347 P) bx bx))) (bn (ho88 P) (bn (ho120 P) (bn (ho267 P) (bn (ho395 P) bx bx) bx) (bn (ho331 P) bx bx)) (bn (ho152 P) (bn (ho299 P) bx bx) (bn (ho363 P) bx bx)))) (bn (ho62 P) (bn (ho78 P) (bn (ho112 P) (bn (ho176 P) (bn (ho387 P) bx bx) bx) (bn (ho323 P) bx bx)) (bn (ho144 P) (bn (ho291 P) bx bx) (bn (ho355 P) bx bx))) (bn (ho96 P) (bn (ho128 P) (bn (ho275 P) bx bx) (bn (ho339 P) bx bx)) (bn (ho160 P) (bn (ho307 P) bx bx) (bn (ho371 P) bx bx))))) (bn (ho46 P) (bn (ho58 P) (bn (ho74 P) (bn (ho108 P) (bn (ho172 P) (bn (ho383 P) bx bx) bx) (bn (ho319 P) bx bx)) (bn (ho140 P) (bn (ho287 P) bx bx) (bn (ho351 P) bx bx))) (bn (ho92 P) (bn (ho124 P) (bn (ho271 P) (bn (ho399 P) bx bx) bx) (bn (ho335 P) bx bx)) (bn (ho156 P) (bn (ho303 P) bx bx) (bn (ho367 P) bx bx)))) (bn (ho66 P) (bn (ho82 P) (bn (ho116 P) (bn (ho180 P) (bn (ho391 P) bx bx) bx) (bn (ho327 P) bx bx)) (bn (ho148 P) (bn (ho295 P) bx bx) (bn (ho359 P) bx bx))) (bn (ho100 P) (bn (ho132 P) (bn (ho279 P) bx bx) (bn (ho343 P) bx bx)) (bn (ho164 P) (bn (ho311 P) bx bx) (bn (ho375 P) bx bx)))))))
noncomputable def tr533 (P : Params) : BT := bn (boot_o_0 P) (bn (boot_o_1 P) (bn (ho489 P) (bn (boot_o_7 P) (bn (ho51 P) (bn (ho67 P) (bn (ho101 P) (bn (ho165 P) (bn (ho376 P) bx bx) bx) (bn (ho312 P) (bn (ho530 P) bx bx) bx)) (bn (ho133 P) (bn (ho280 P) (bn (ho498 P) bx bx) bx) (bn (ho344 P) bx bx))) (bn (ho83 P) (bn (ho117 P) (bn (ho181 P) (bn (ho392 P) bx bx) bx) (bn (ho328 P) bx bx)) (bn (ho149 P) (bn (ho296 P) (bn (ho514 P) bx bx) bx) (bn (ho360 P) bx bx)))) (bn (ho59 P) (bn (ho75 P) (bn (ho109 P) (bn (ho173 P) (bn (ho384 P) bx bx) bx) (bn (ho320 P) bx bx)) (bn (ho141 P) (bn (ho288 P) (bn (ho506 P) bx bx) bx) (bn (ho352 P) bx bx))) (bn (ho93 P) (bn (ho125 P) (bn (ho272 P) (bn (ho400 P) bx bx) bx) (bn (ho336 P) bx bx)) (bn (ho157 P) (bn (ho304 P) (bn (ho522 P) bx bx) bx) (bn (ho368 P) bx bx))))) (bn (ho43 P) (bn (ho55 P) (bn (ho71 P) (bn (ho105 P) (bn (ho169 P) (bn (ho380 P) bx bx) bx) (bn (ho316 P) bx bx)) (bn (ho137 P) (bn (ho284 P) (bn (ho502 P) bx bx) bx) (bn (ho348 P) bx bx))) (bn (ho89 P) (bn (ho121 P) (bn (ho268 P) (bn (ho396 P) bx bx) bx) (bn (ho332 P) bx bx)) (bn (ho153 P) (bn (ho300 P) (bn (ho518 P) bx bx) bx) (bn (ho364 P) bx bx)))) (bn (ho63 P) (bn (ho79 P) (bn (ho113 P) (bn (ho177 P) (bn (ho388 P) bx bx) bx) (bn (ho324 P) bx bx)) (bn (ho145 P) (bn (ho292 P) (bn (ho510 P) bx bx) bx) (bn (ho356 P) bx bx))) (bn (ho97 P) (bn (ho129 P) (bn (ho276 P) (bn (ho494 P) bx bx) bx) (bn (ho340 P) bx bx)) (bn (ho161 P) (bn (ho308 P) (bn (ho526 P) bx bx) bx) (bn (ho372 P) bx bx)))))) (bn (boot_o_5 P) (bn (boot_o_9 P) (bn (ho53 P) (bn (ho69 P) (bn (ho103 P) (bn (ho167 P) (bn (ho378 P) bx bx) bx) (bn (ho314 P) (bn (ho532 P) bx bx) bx)) (bn (ho135 P) (bn (ho282 P) (bn (ho500 P) bx bx) bx) (bn (ho346 P) bx bx))) (bn (ho85 P) (bn (ho119 P) (bn (ho183 P) (bn (ho394 P) bx bx) bx) (bn (ho330 P) bx bx)) (bn (ho151 P) (bn (ho298 P) (bn (ho516 P) bx bx) bx) (bn (ho362 P) bx bx)))) (bn (ho61 P) (bn (ho77 P) (bn (ho111 P) (bn (ho175 P) (bn (ho386 P) bx bx) bx) (bn (ho322 P) bx bx)) (bn (ho143 P) (bn (ho290 P) (bn (ho508 P) bx bx) bx) (bn (ho354 P) bx bx))) (bn (ho95 P) (bn (ho127 P) (bn (ho274 P) (bn (ho492 P) bx bx) bx) (bn (ho338 P) bx bx)) (bn (ho159 P) (bn (ho306 P) (bn (ho524 P) bx bx) bx) (bn (ho370 P) bx bx))))) (bn (ho45 P) (bn (ho57 P) (bn (ho73 P) (bn (ho107 P) (bn (ho171 P) (bn (ho382 P) bx bx) bx) (bn (ho318 P) bx bx)) (bn (ho139 P) (bn (ho286 P) (bn (ho504 P) bx bx) bx) (bn (ho350 P) bx bx))) (bn (ho91 P) (bn (ho123 P) (bn (ho270 P) (bn (ho398 P) bx bx) bx) (bn (ho334 P) bx bx)) (bn (ho155 P) (bn (ho302 P) (bn (ho520 P) bx bx) bx) (bn (ho366 P) bx bx)))) (bn (ho65 P) (bn (ho81 P) (bn (ho115 P) (bn (ho179 P) (bn (ho390 P) bx bx) bx) (bn (ho326 P) bx bx)) (bn (ho147 P) (bn (ho294 P) (bn (ho512 P) bx bx) bx) (bn (ho358 P) bx bx))) (bn (ho99 P) (bn (ho131 P) (bn (ho278 P) (bn (ho496 P) bx bx) bx) (bn (ho342 P) bx bx)) (bn (ho163 P) (bn (ho310 P) (bn (ho528 P) bx bx) bx) (bn (ho374 P) bx bx))))))) (bn (boot_o_2 P) (bn (boot_o_4 P) (bn (boot_o_8 P) (bn (ho52 P) (bn (ho68 P) (bn (ho102 P) (bn (ho166 P) (bn (ho377 P) bx bx) bx) (bn (ho313 P) (bn (ho531 P) bx bx) bx)) (bn (ho134 P) (bn (ho281 P) (bn (ho499 P) bx bx) bx) (bn (ho345 P) bx bx))) (bn (ho84 P) (bn (ho118 P) (bn (ho182 P) (bn (ho393 P) bx bx) bx) (bn (ho329 P) bx bx)) (bn (ho150 P) (bn (ho297 P) (bn (ho515 P) bx bx) bx) (bn (ho361 P) bx bx)))) (bn (ho60 P) (bn (ho76 P) (bn (ho110 P) (bn (ho174 P) (bn (ho385 P) bx bx) bx) (bn (ho321 P) bx bx)) (bn (ho142 P) (bn (ho289 P) (bn (ho507 P) bx bx) bx) (bn (ho353 P) bx bx))) (bn (ho94 P) (bn (ho126 P) (bn (ho273 P) (bn (ho491 P) bx bx) bx) (bn (ho337 P) bx bx)) (bn (ho158 P) (bn (ho305 P) (bn (ho523 P) bx bx) bx) (bn (ho369 P) bx bx))))) (bn (ho490 P) (bn (ho56 P) (bn (ho72 P) (bn (ho106 P) (bn (ho170 P) (bn (ho381 P) bx bx) bx) (bn (ho317 P) bx bx)) (bn (ho138 P) (bn (ho285 P) (bn (ho503 P) bx bx) bx) (bn (ho349 P) bx bx))) (bn (ho90 P) (bn (ho122 P) (bn (ho269 P) (bn (ho397 P) bx bx) bx) (bn (ho333 P) bx bx)) (bn (ho154 P) (bn (ho301 P) (bn (ho519 P) bx bx) bx) (bn (ho365 P) bx bx)))) (bn (ho64 P) (bn (ho80 P) (bn (ho114 P) (bn (ho178 P) (bn (ho389 P) bx bx) bx) (bn (ho325 P) bx bx)) (bn (ho146 P) (bn (ho293 P) (bn (ho511 P) bx bx) bx) (bn (ho357 P) bx bx))) (bn (ho98 P) (bn (ho130 P) (bn (ho277 P) (bn (ho495 P) bx bx) bx) (bn (ho341 P) bx bx)) (bn (ho162 P) (bn (ho309 P) (bn (ho527 P) bx bx) bx) (bn (ho373 P) bx bx)))))) (bn (boot_o_6 P) (bn (boot_o_10 P) (bn (ho54 P) (bn (ho70 P) (bn (ho104 P) (bn (ho168 P) (bn (ho379 P) bx bx) bx) (bn (ho315 P) (bn (ho533 P) bx bx) bx)) (bn (ho136 P) (bn (ho283 P) (bn (ho501 P) bx bx) bx) (bn (ho347 P) bx bx))) (bn (ho88 P) (bn (ho120 P) (bn (ho267 P) (bn (ho395 P) bx bx) bx) (bn (ho331 P) bx bx)) (bn (ho152 P) (bn (ho299 P) (bn (ho517 P) bx bx) bx) (bn (ho363 P) bx bx)))) (bn (ho62 P) (bn (ho78 P) (bn (ho112 P) (bn (ho176 P) (bn (ho387 P) bx bx) bx) (bn (ho323 P) bx bx)) (bn (ho144 P) (bn (ho291 P) (bn (ho509 P) bx bx) bx) (bn (ho355 P) bx bx))) (bn (ho96 P) (bn (ho128 P) (bn (ho275 P) (bn (ho493 P) bx bx) bx) (bn (ho339 P) bx bx)) (bn (ho160 P) (bn (ho307 P) (bn (ho525 P) bx bx) bx) (bn (ho371 P) bx bx))))) (bn (ho46 P) (bn (ho58 P) (bn (ho74 P) (bn (ho108 P) (bn (ho172 P) (bn (ho383 P) bx bx) bx) (bn (ho319 P) bx bx)) (bn (ho140 P) (bn (ho287 P) (bn (ho505 P) bx bx) bx) (bn (ho351 P) bx bx))) (bn (ho92 P) (bn (ho124 P) (bn (ho271 P) (bn (ho399 P) bx bx) bx) (bn (ho335 P) bx bx)) (bn (ho156 P) (bn (ho303 P) (bn (ho521 P) bx bx) bx) (bn (ho367 P) bx bx)))) (bn (ho66 P) (bn (ho82 P) (bn (ho116 P) (bn (ho180 P) (bn (ho391 P) bx bx) bx) (bn (ho327 P) bx bx)) (bn (ho148 P) (bn (ho295 P) (bn (ho513 P) bx bx) bx) (bn (ho359 P) bx bx))) (bn (ho100 P) (bn (ho132 P) (bn (ho279 P) (bn (ho497 P) bx bx) bx) (bn (ho343 P) bx bx)) (bn (ho164 P) (bn (ho311 P) (bn (ho529 P) bx bx) bx) (bn (ho375 P) bx bx)))))))
noncomputable def heapA (P : Params) : Heap := { objs := { toList := [boot_o_0 P, boot_o_1 P, boot_o_2 P, boot_o_3 P, boot_o_4 P, boot_o_5 P, boot_o_6 P, boot_o_7 P, boot_o_8 P, boot_o_9 P, boot_o_10 P, ho43 P, ho44 P, ho45 P, ho46 P] } }
noncomputable def heapE (P : Params) : Heap := { objs := { toList := [boot_o_0 P, boot_o_1 P, boot_o_2 P, ho489 P, boot_o_4 P, boot_o_5 P, boot_o_6 P, boot_o_7 P, boot_o_8 P, boot_o_9 P, boot_o_10 P, ho43 P, ho490 P, ho45 P, ho46 P, ho51 P, ho52 P, ho53 P, ho54 P, ho55 P, ho56 P, ho57 P, ho58 P, ho59 P, ho60 P, ho61 P, ho62 P, ho63 P, ho64 P, ho65 P, ho66 P, ho67 P, ho68 P, ho69 P, ho70 P, ho71 P, ho72 P, ho73 P, ho74 P, ho75 P, ho76 P, ho77 P, ho78 P, ho79 P, ho80 P, ho81 P, ho82 P, ho83 P, ho84 P, ho85 P, ho88 P, ho89 P, ho90 P, ho91 P, ho92 P, ho93 P, ho94 P, ho95 P, ho96 P, ho97 P, ho98 P, ho99 P, ho100 P, ho101 P, ho102 P, ho103 P, ho104 P, ho105 P, ho106 P, ho107 P, ho108 P, ho109 P, ho110 P, ho111 P, ho112 P, ho113 P, ho114 P, ho115 P, ho116 P, ho117 P, ho118 P, ho119 P, ho120 P, ho121 P, ho122 P, ho123 P, ho124 P, ho125 P, ho126 P, ho127 P, ho128 P, ho129 P, ho130 P, ho131 P, ho132 P, ho133 P, ho134 P, ho135 P, ho136 P, ho137 P, ho138 P, ho139 P, ho140 P, ho141 P, ho142 P, ho143 P, ho144 P, ho145 P, ho146 P, ho147 P, ho148 P, ho149 P, ho150 P, ho151 P, ho152 P, ho153 P, ho154 P, ho155 P, ho156 P, ho157 P, ho158 P, ho159 P, ho160 P, ho161 P, ho162 P, ho163 P, ho164 P, ho165 P, ho166 P, ho167 P, ho168 P, ho169 P, ho170 P, ho171 P, ho172 P, ho173 P, ho174 P, ho175 P, ho176 P, ho177 P, ho178 P, ho179 P, ho180 P, ho181 P, ho182 P, ho183 P, ho267 P, ho268 P, ho269 P, ho270 P, ho271 P, ho272 P, ho273 P, ho274 P, ho275 P, ho276 P, ho277 P, ho278 P, ho279 P, ho280 P, ho281 P, ho282 P, ho283 P, ho284 P, ho285 P, ho286 P, ho287 P, ho288 P, ho289 P, ho290 P, ho291 P, ho292 P, ho293 P, ho294 P, ho295 P, ho296 P, ho297 P, ho298 P, ho299 P, ho300 P, ho301 P, ho302 P, ho303 P, ho304 P, ho305 P, ho306 P, ho307 P, ho308 P, ho309 P, ho310 P, ho311 P, ho312 P, ho313 P, ho314 P, ho315 P, ho316 P, ho317 P, ho318 P, ho319 P, ho320 P, ho321 P, ho322 P, ho323 P, ho324 P, ho325 P, ho326 P, ho327 P, ho328 P, ho329 P, ho330 P, ho331 P, ho332 P, ho333 P, ho334 P, ho335 P, ho336 P, ho337 P, ho338 P, ho339 P, ho340 P, ho341 P, ho342 P, ho343 P, ho344 P, ho345 P, ho346 P, ho347 P, ho348 P, ho349 P, ho350 P, ho351 P, ho352 P, ho353 P, ho354 P, ho355 P, ho356 P, ho357 P, ho358 P, ho359 P, ho360 P, ho361 P, ho362 P, ho363 P, ho364 P, ho365 P, ho366 P, ho367 P, ho368 P, ho369 P, ho370 P, ho371 P, ho372 P, ho373 P, ho374 P, ho375 P, ho376 P, ho377 P, ho378 P, ho379 P, ho380 P, ho381 P, ho382 P, ho383 P, ho384 P, ho385 P, ho386 P, ho387 P, ho388 P, ho389 P, ho390 P, ho391 P, ho392 P, ho393 P, ho394 P, ho395 P, ho396 P, ho397 P, ho398 P, ho399 P, ho400 P, ho491 P, ho492 P, ho493 P, ho494 P, ho495 P, ho496 P, ho497 P, ho498 P, ho499 P, ho500 P, ho501 P, ho502 P, ho503 P, ho504 P, ho505 P, ho506 P, ho507 P, ho508 P, ho509 P, ho510 P, ho511 P, ho512 P, ho513 P, ho514 P, ho515 P, ho516 P, ho517 P, ho518 P, ho519 P, ho520 P, ho521 P, ho522 P, ho523 P, ho524 P, ho525 P, ho526 P, ho527 P, ho528 P, ho529 P, ho530 P, ho531 P, ho532 P, ho533 P] } }
noncomputable abbrev env9 : Env := { scope := rowL.prog.main.scope, locals := mainNs, globals := mainNs, cells := [], code := Value.ref 13, frame := some 14 }
noncomputable abbrev body9 : List Stmt := behindTheImports rowL.prog
noncomputable abbrev code9 : Code := Code.body body9 env9
noncomputable abbrev B9 : List Frame := [topFrame ⟨0, 0, 0, 0⟩]
noncomputable abbrev ts9 (t : Params → BT) (n k : Nat) (w : World) (os : OsState) : SharedT := ⟨t w.params, n, {}, Array.mk [], {}, k, os⟩
theorem pc1 (w : World) (os : OsState) : topGo treeTable rowL.prog w 11 (some (.ref 6)) 12 ⟨boot_heap w.params, Array.mk [], boot_drawn, boot_toks, os⟩ (topStub rowL.prog) = some (⟨heapA w.params, Array.mk [], {}, 187, os⟩, ⟨denote treeTable code9, code9, ⟨0, 0, 0, 0⟩, B9⟩) := by kernel_rfl
theorem pc2 (w : World) (os : OsState) : segRun treeTable rowL.prog w 11 (some (.ref 6)) 1 1 ⟨heapA w.params, Array.mk [], {}, 187, os⟩ (blockOf body9 env9 code9 ⟨0, 0, 0, 0⟩ B9) = some (.next, (ts9 tr47 15 187 w os).abs, code9, ⟨0, 0, 0, 0⟩) := by kernel_rfl
theorem pc3 (w : World) (os : OsState) : segRunT treeTable rowL.prog w 11 (some (.ref 6)) 1 173 (ts9 tr47 15 187 w os) (piecesOf [stS 0, stS 1, stS 2, stS 3, stS 4, stS 5, stS 6] env9 code9 ⟨0, 0, 0, 0⟩ B9) = some (.next, ts9 tr85 50 235 w os, code9, ⟨14, 0, 14, 8⟩) := by kernel_rfl
theorem pc4 (w : World) (os : OsState) : segRunT treeTable rowL.prog w 11 (some (.ref 6)) 1 612 (ts9 tr85 50 235 w os) (piecesOf [stS 7] env9 code9 ⟨14, 0, 14, 8⟩ B9) = some (.next, ts9 tr183 146 391 w os, code9, ⟨15, 0, 112, 26⟩) := by kernel_rfl
theorem pc5 (w : World) (os : OsState) : segRunT treeTable rowL.prog w 11 (some (.ref 6)) 1 10 (ts9 tr183 146 391 w os) (piecesOf [stS 8] env9 code9 ⟨15, 0, 112, 26⟩ B9) = some (.next, ts9 tr263 146 393 w os, code9, ⟨113, 0, 113, 8⟩) := by kernel_rfl
theorem pc6 (w : World) (os : OsState) : segRunT treeTable rowL.prog w 11 (some (.ref 6)) 1 752 (ts9 tr263 146 393 w os) (piecesOf [stS 9] env9 code9 ⟨113, 0, 113, 8⟩ B9) = some (.next, ts9 tr400 280 566 w os, code9, ⟨114, 0, 215, 57⟩) := by kernel_rfl
theorem pc7 (w : World) (os : OsState) : segRunT treeTable rowL.prog w 11 (some (.ref 6)) 1 218 (ts9 tr400 280 566 w os) (piecesOf [stS 10, stS 11, stS 12, stS 13, stS 14, stS 15, stS 16, stS 17] env9 code9 ⟨114, 0, 215, 57⟩ B9) = some (.next, ts9 tr533 323 628 w os, code9, ⟨265, 0, 291, 104⟩) := by kernel_rfl
theorem pc8 (w : World) (os : OsState) : topRun treeTable rowL.prog w 11 (some (.ref 6)) 2 (ts9 tr533 323 628 w os).abs ⟨doneF .next, code9, ⟨265, 0, 291, 104⟩, B9⟩ = some ⟨heapE w.params, Array.mk [], {}, 628, os⟩ := by kernel_rfl
theorem body_is : body9 = [stS 0, stS 1, stS 2, stS 3, stS 4, stS 5, stS 6] ++ ([stS 7] ++ ([stS 8] ++ ([stS 9] ++ ([stS 10, stS 11, stS 12, stS 13, stS 14, stS 15, stS 16, stS 17] ++ [])))) := by kernel_rfl
theorem rest_run (w : World) (os : OsState) : topRun treeTable rowL.prog w 11 (some (.ref 6)) (173 + (612 + (10 + (752 + (218 + 2))))) (ts9 tr47 15 187 w os).abs (restOf body9 env9 code9 ⟨0, 0, 0, 0⟩ B9) = some ⟨heapE w.params, Array.mk [], {}, 628, os⟩ :=
  (congrArg (fun b => topRun treeTable rowL.prog w 11 (some (.ref 6)) (173 + (612 + (10 + (752 + (218 + 2))))) (ts9 tr47 15 187 w os).abs (restOf b env9 code9 ⟨0, 0, 0, 0⟩ B9)) body_is).trans
    (piece_app (segRun_of (pc3 w os)) (piece_app (segRun_of (pc4 w os)) (piece_app (segRun_of (pc5 w os)) (piece_app (segRun_of (pc6 w os)) (piece_app (segRun_of (pc7 w os)) (piece_nil (pc8 w os)))))))
theorem run9 (w : World) (os : OsState) : topRun treeTable rowL.prog w 11 (some (.ref 6)) (12 + (1 + (173 + (612 + (10 + (752 + (218 + 2))))))) ⟨boot_heap w.params, Array.mk [], boot_drawn, boot_toks, os⟩ (topStub rowL.prog) = some ⟨heapE w.params, Array.mk [], {}, 628, os⟩ :=
  go_top (pc1 w os) (piece_block (pc2 w os) (rest_run w os))
theorem fence9 (s : Shared) : fenceModules? rowL.prog s = some s := by kernel_rfl
theorem open9 : opening rowL.prog = plainProg rowL.prog.main.scope.names := by kernel_rfl
theorem looks9 : ∀ w : World, (fun os => ((staticsOk (importedModules rowL.prog.main.body) (boot_heap w.params) (heapE w.params) && namesBound rowL.prog (heapE w.params) && gensDone ⟨heapE w.params, Array.mk [], {}, 628, os⟩ && laidKept (boot_heap w.params) (heapE w.params)),
    openSeen hd.view_39 [] (importedModules rowL.prog.main.body) lookL true ⟨heapE w.params, Array.mk [], {}, 628, os⟩, hk.obs ⟨heapE w.params, Array.mk [], {}, 628, os⟩)) = fun _ => (true, openGood hd.view_39 [], hk.val w) := fun w => by kernel_rfl
theorem left_law : LeftO rowL.prog hd.view_39 [] lookL hk.obs hk.val 3646 :=
  LeftO.of_pieces (boot_open open9 (by decide) fence9) (fun w => by kernel_rfl) run9 (by decide) looks9
noncomputable abbrev posS : Stmt → Pos
  | .FunctionDef _ _ _ _ _ _ _ _ _ p => p
  | _ => default
noncomputable abbrev posL : Pos := litOf (show posS (stS 17) = _ by conv => lhs; whnf)
noncomputable abbrev defL : DefRec := { name := Str.ofString "law", params := p322, body := b322, scope := s322, pos := posL }
theorem said_1 : (sreFenced rowL.prog.main && ((moduleNames rowL.prog.main.body).isEmpty || lookedIntoSs (moduleNames rowL.prog.main.body) rowL.prog.main.body)) = true := by kernel_rfl
theorem said_2 : namesResolve rowL.prog = true := by kernel_rfl
theorem said_3 : rowL.prog.boundNames.all (fun n => !worldNames.contains n) = true := by kernel_rfl
theorem said_4 : noRoadLSs { strict := !(importedModules rowL.prog.main.body).all cThrough.contains, foot := none, bare := (["vars", "dir", "locals"] : List Str).filter (readsOut rowL.prog rowL.prog.main.body) } rowL.prog.main.body = true := by kernel_rfl
theorem said_5 : (namesMeet rowL.prog rowL.prog.main.body fun _ n => attrL n) = true := by kernel_rfl
theorem said_looks : looksOpen rowL.prog = true := by
  unfold looksOpen
  rw [said_1, said_2, said_3, said_4, said_5]
  rfl
theorem said_row : PySem.Challenge.rw_on0345_01.row.wellSaid = true := by
  unfold OpenRow.wellSaid OpenRow.partSaid
  rw [show looksOpen PySem.Challenge.rw_on0345_01.row.prog = true from said_looks]
  kernel_rfl
theorem said_law : PySem.Challenge.rw_on0345_01.wellSaid = true := by
  unfold OpenLaw.wellSaid
  rw [said_row]
  kernel_rfl
theorem wit_law : rowL.toRowW.promised := by w_witness2
theorem hd (walk : WalkC hd.view_39 [] (XL hd.view_39 []) hk.says rowL.toRowW defL []) : PySem.Challenge.rw_on0345_01.Holds := by
  refine holds_law said_law fun said => ?_
  exact open_holds (q := hd.view_39) (loose := []) (Xt := lookL) (XP := XL hd.view_39 []) (Yf := hk.obs) (Ya := hk.val) (YP := hk.says) (N := 3646) left_law hk.of hk.keeps
    (fun s e => xl_of s (Bool.and_eq_true_iff.mp e).1) XL.keeps (by kernel_rfl) (by kernel_rfl) (by kernel_rfl) (fun s e => recFacts_of (Bool.and_eq_true_iff.mp e).2) rfl said (by decide +kernel) ⟨rfl, rfl, rfl, rfl, rfl, by decide +kernel⟩ wit_law walk

theorem anew_01 : True := by w_top off; trivial
noncomputable abbrev Led := List (Addr × Obj)

noncomputable def Spec (w : World) (mean : ExcName → Option Value) (mg mb : Str → Option Value) (f : Addr) (k : Nat) (vs : List Value) (news : Led) (Post : Value → Led → Prop) : Prop :=
  ∀ (dp un : Nat) (gd : Option (List Code)) (cn : Str) (cs : Scope) (a : Addr) (ccd : Value) (cl : List (Str × Addr)) (outer : List Env) (A₀ : Around) (base h₀ : Heap) (L : Addr) (m : Str → Option Value) (s : Shared) (Q E : Value → Shared → Prop),
    Below A₀ base outer h₀ → Fr h₀ L s.heap m → (hd.heap_39 w.params).In h₀ → News h₀ L s.heap news → Top hd.view_39 (looseW hd.view_39 []) mean mg mb h₀ → cs.kind = .function → dp + k < recursionLimit → un + 8 * k < cLine →
    (∀ r news' h' tk', Fr h₀ L h' m → News h₀ L h' news' → Post r news' → Q r { s with heap := h', toks := tk' }) →
    wpAny (model PySem.Challenge.rw_on0345_01.row.prog w) (ktrTop dp un gd cn cs L a ccd cl outer) (call (.ref f) vs) Q E s

section
variable {w : World} {mean : ExcName → Option Value} {mg mb : Str → Option Value} {f : Addr} {k : Nat} {vs : List Value} {news : Led} {Post : Value → Led → Prop}
  {dp un : Nat} {gd : Option (List Code)} {cn : Str} {cs : Scope} {a : Addr} {ccd : Value} {cl : List (Str × Addr)} {outer : List Env} {A₀ : Around} {base h₀ : Heap} {L : Addr} {m : Str → Option Value} {s : Shared} {Q E : Value → Shared → Prop}
theorem Spec.use (C : Spec w mean mg mb f k vs news Post) (B : Below A₀ base outer h₀) (F : Fr h₀ L s.heap m) (X : (hd.heap_39 w.params).In h₀) (N : News h₀ L s.heap news) (T : Top hd.view_39 (looseW hd.view_39 []) mean mg mb h₀) (hk : cs.kind = .function)
    (hd : dp + k < recursionLimit) (hu : un + 8 * k < cLine)
    (ret : ∀ r news' h' tk', Fr h₀ L h' m → News h₀ L h' news' → Post r news' → Q r { s with heap := h', toks := tk' }) :
    wpAny (model PySem.Challenge.rw_on0345_01.row.prog w) (ktrTop dp un gd cn cs L a ccd cl outer) (call (.ref f) vs) Q E s :=
  C _ _ _ _ _ _ _ _ _ _ _ _ _ _ _ _ _ B F X N T hk hd hu ret
theorem Spec.useR {P : Value → Prop} (C : Spec w mean mg mb f k vs news (fun r n' => n' = news ∧ P r)) (B : Below A₀ base outer h₀) (F : Fr h₀ L s.heap m) (X : (hd.heap_39 w.params).In h₀) (N : News h₀ L s.heap news) (T : Top hd.view_39 (looseW hd.view_39 []) mean mg mb h₀) (hk : cs.kind = .function)
    (hd : dp + k < recursionLimit) (hu : un + 8 * k < cLine)
    (ret : ∀ r h' tk', Fr h₀ L h' m → News h₀ L h' news → P r → Q r { s with heap := h', toks := tk' }) :
    wpAny (model PySem.Challenge.rw_on0345_01.row.prog w) (ktrTop dp un gd cn cs L a ccd cl outer) (call (.ref f) vs) Q E s :=
  C.use B F X N T hk hd hu (fun r n' h' tk' F' N' hP => by obtain ⟨rfl, hP⟩ := hP; exact ret r h' tk' F' N' hP)
theorem Spec.useI {x : Int} (C : Spec w mean mg mb f k vs news (fun r n' => n' = news ∧ ∃ t, r = .int x t)) (B : Below A₀ base outer h₀) (F : Fr h₀ L s.heap m) (X : (hd.heap_39 w.params).In h₀) (N : News h₀ L s.heap news) (T : Top hd.view_39 (looseW hd.view_39 []) mean mg mb h₀) (hk : cs.kind = .function)
    (hd : dp + k < recursionLimit) (hu : un + 8 * k < cLine)
    (ret : ∀ t h' tk', Fr h₀ L h' m → News h₀ L h' news → Q (.int x t) { s with heap := h', toks := tk' }) :
    wpAny (model PySem.Challenge.rw_on0345_01.row.prog w) (ktrTop dp un gd cn cs L a ccd cl outer) (call (.ref f) vs) Q E s :=
  C.use B F X N T hk hd hu (fun r n' h' tk' F' N' hP => by obtain ⟨rfl, t, rfl⟩ := hP; exact ret t h' tk' F' N')
theorem Spec.useN (C : Spec w mean mg mb f k vs news (fun r n' => n' = news ∧ r = .none)) (B : Below A₀ base outer h₀) (F : Fr h₀ L s.heap m) (X : (hd.heap_39 w.params).In h₀) (N : News h₀ L s.heap news) (T : Top hd.view_39 (looseW hd.view_39 []) mean mg mb h₀) (hk : cs.kind = .function)
    (hd : dp + k < recursionLimit) (hu : un + 8 * k < cLine)
    (ret : ∀ h' tk', Fr h₀ L h' m → News h₀ L h' news → Q .none { s with heap := h', toks := tk' }) :
    wpAny (model PySem.Challenge.rw_on0345_01.row.prog w) (ktrTop dp un gd cn cs L a ccd cl outer) (call (.ref f) vs) Q E s :=
  C.use B F X N T hk hd hu (fun r n' h' tk' F' N' hP => by obtain ⟨rfl, rfl⟩ := hP; exact ret h' tk' F' N')
theorem Spec.useB {x : Bool} (C : Spec w mean mg mb f k vs news (fun r n' => n' = news ∧ r = .bool x)) (B : Below A₀ base outer h₀) (F : Fr h₀ L s.heap m) (X : (hd.heap_39 w.params).In h₀) (N : News h₀ L s.heap news) (T : Top hd.view_39 (looseW hd.view_39 []) mean mg mb h₀) (hk : cs.kind = .function)
    (hd : dp + k < recursionLimit) (hu : un + 8 * k < cLine)
    (ret : ∀ h' tk', Fr h₀ L h' m → News h₀ L h' news → Q (.bool x) { s with heap := h', toks := tk' }) :
    wpAny (model PySem.Challenge.rw_on0345_01.row.prog w) (ktrTop dp un gd cn cs L a ccd cl outer) (call (.ref f) vs) Q E s :=
  C.use B F X N T hk hd hu (fun r n' h' tk' F' N' hP => by obtain ⟨rfl, rfl⟩ := hP; exact ret h' tk' F' N')
end
/-- the frames' room and the C units at a call from within a body -/
theorem room_lt {d k k' l : Nat} (h : d + k < l) (e : Nat.ble (1 + k') k = true) : d + 1 + k' < l := Nat.lt_of_le_of_lt (by rw [Nat.add_assoc]; exact Nat.add_le_add_left (Nat.le_of_ble_eq_true e) d) h
theorem room_lt0 {d k l : Nat} (h : d + k < l) : d < l := Nat.lt_of_le_of_lt (Nat.le_add_right d k) h
theorem units_lt {u j k k' l : Nat} (h : u + 8 * k < l) (e : Nat.ble (j + 8 * k') (8 * k) = true) : u + j + 8 * k' < l := Nat.lt_of_le_of_lt (by rw [Nat.add_assoc]; exact Nat.add_le_add_left (Nat.le_of_ble_eq_true e) u) h
theorem units_lt0 {u j k l : Nat} (h : u + 8 * k < l) (e : Nat.ble j (8 * k) = true) : u + j < l := Nat.lt_of_le_of_lt (Nat.add_le_add_left (Nat.le_of_ble_eq_true e) u) h
theorem lt_ble {a b : Nat} (e : Nat.ble (a + 1) b = true) : a < b := Nat.le_of_ble_eq_true e
theorem room_lt2 {d j k k' l : Nat} (h : d + k < l) (e : Nat.ble (j + k') k = true) : d + j + k' < l := Nat.lt_of_le_of_lt (by rw [Nat.add_assoc]; exact Nat.add_le_add_left (Nat.le_of_ble_eq_true e) d) h
theorem memL {α : Type} {a : α} {l : List α} (h : a ∈ l) : List.Mem a l := h
local macro_rules | `(tactic| k_mem) => `(tactic| (refine memL ?_; ktr_member))
noncomputable def chain : List (Str × Value) → (Str → Option Value) → Str → Option Value
  | [], m => m
  | (x, v) :: r, m => fun y => if y = x then some v else chain r m y
theorem chain_eq {m : Str → Option Value} : ∀ {l : List (Str × Value)}, (∀ p ∈ l, m p.1 = some p.2) → chain l m = m
  | [], _ => rfl
  | (x, v) :: r, h => by
    funext y
    show (if y = x then some v else chain r m y) = m y
    by_cases e : y = x
    · rw [if_pos e, e]; exact (h (x, v) (.head _)).symm
    · rw [if_neg e, chain_eq fun q hq => h q (.tail _ hq)]
theorem Fr_chain {h₀ h : Heap} {L : Addr} {m : Str → Option Value} (l : List (Str × Value)) (F : Fr h₀ L h m) (e : ∀ p ∈ l, m p.1 = some p.2) : Fr h₀ L h (chain l m) := by rw [chain_eq e]; exact F
theorem chain_lookup : ∀ (l : List (Str × Value)) (y : Str), l.lookup y = chain l (fun _ => none) y
  | [], _ => rfl
  | (x, v) :: r, y => by
    rw [List.lookup_cons]
    show _ = if y = x then some v else chain r _ y
    by_cases e : y = x
    · rw [if_pos e, e]; simp
    · rw [if_neg e, ← chain_lookup r y]
      have : (y == x) = false := by simpa using e
      rw [this]
theorem all0 {α : Type} {P : α → Prop} : ∀ x ∈ ([] : List α), P x := fun _ h => nomatch h
theorem all2 {α : Type} {P : α → Prop} {a : α} {l : List α} (h : P a) (k : ∀ x ∈ l, P x) : ∀ x ∈ a :: l, P x := List.forall_mem_cons.mpr ⟨h, k⟩
section
variable {prog : Program} {w : World} {A A₀ : Around} {E : Value → Shared → Prop} {s : Shared} {K : Frag} {C L : Addr} {h₀ base : Heap} {m mg mb : Str → Option Value} {news : List (Addr × Obj)} {p : Program} {loose : List Str} {mean : ExcName → Option Value} {Q : Value → Shared → Prop}
theorem code_defM (rb : List (Str × Value)) {env : Env} {outer : List Env} {R : Result → Shared → Prop} {name qual : Str} {params : Arguments} {body : List Stmt} {scope : Scope} {dV kV doc pm cdv ct oc : Value} {an od : Option Addr} {osl : Array (Option Value)} {f : Addr} {args : Args}
    (B : Below A₀ base outer h₀) (F : Fr h₀ L s.heap m) (X₀ : K.In h₀) (N : News h₀ L s.heap news) (T : Top p loose mean mg mb h₀) (hA : A.frames = some (env :: outer)) (hf : env.frame = some L) (hke : env.scope.kind = .function)
    (ho : K.lookup f = some ⟨oc, od, .func (fnOf name qual params body scope dV kV doc pm an cdv ct), osl⟩) (hcd : codeIn K cdv qual = true) (hroom : A.depth < recursionLimit)
    (hbind : BindsTo s (fnOf name qual params body scope dV kV doc pm an cdv ct) args rb.reverse) (hloc : ∀ y ∈ rb.reverse, scope.names.lookup y.1 = some .local)
    (h : ∀ g L' h₁ tk, Fr h₀ L g m → Fr g L' h₁ (chain rb fun _ => none) → News g L' h₁ news → Below A base (env :: outer) g → K.In g → Top p loose mean mg mb g →
      wpAny (model prog w) (A.deeper (envOf qual scope L' f cdv)) (execs body (envOf qual scope L' f cdv))
        (fun fl s' => LeaveK h₀ L m g R (match fl with | .ret v => v | _ => .none) s')
        (fun e s' => wpAny (model prog w) (A.deeper (envOf qual scope L' f cdv)) (leaving (envOf qual scope L' f cdv) e) (fun _ s'' => R (.error e) s'') (fun e' s'' => R (.error e') s'') s')
        { s with heap := h₁, toks := tk })
    (hco : scope.isCoroutine = false) (hgen : scope.isGenerator = false) (hk : scope.kind = .function)
    (hcell : ∀ x ∈ scope.names, x.2 ≠ .cell) : codeAny (model prog w) A (.call (.ref f) args) R s :=
  code_def B F X₀ N T hA hf hke ho hcd hroom hbind hloc (fun g L' h₁ FG F' N' B' X' T' => by
    have e : (fun y => rb.reverse.reverse.lookup y) = chain rb fun _ => none := by
      funext y; rw [List.reverse_reverse, chain_lookup]
    rw [e] at F'
    exact h g L' h₁ _ FG F' N' B' X' T') hco hgen hk hcell
end
/-- a post under a letter: it is named once where a walk begins, and opened at its ends -/
noncomputable def EndOf (Q : Flow → Shared → Prop) (f : Flow) (s : Shared) : Prop := Q f s
theorem wpAny_opq {M : Model} {A : Around} {t : Sem Flow} {Q : Flow → Shared → Prop} {E : Value → Shared → Prop} {s : Shared} (h : ∀ Qz : Flow → Shared → Prop, (∀ f s', Q f s' → EndOf Qz f s') → wpAny M A t (EndOf Qz) E s) : wpAny M A t Q E s := h Q fun _ _ x => x
theorem EndOf.of {Q Qz : Flow → Shared → Prop} {f : Flow} {s : Shared} (h : ∀ f s', Q f s' → EndOf Qz f s') (k : Q f s) : EndOf Qz f s := h f s k
theorem say_01_9 : True := by
  k_with "mine room" => (first | exact room_lt (by assumption) rfl | exact room_lt0 (by assumption) | exact lt_ble rfl | exact room_lt2 (by assumption) (j := 2) rfl | ktr_room)
  trivial
theorem say_01_8 : True := by
  k_with "mine units" => (first | exact units_lt (by assumption) rfl | exact units_lt0 (by assumption) rfl | exact lt_ble rfl | exact units_lt (j := 4) (by assumption) rfl | ktr_units)
  trivial
theorem say_01_0 : True := by
  k_with "EndOf" => ((k_here; refine EndOf.of (by assumption) ?_))
  trivial
theorem say_01_1 : True := by
  k_with "mine enter" => (((case kA => exact rfl); (case kF => exact rfl); (case kK => assumption); (case k1 => k_asm); (case k2 => k_asm); (case k3 => k_asm); (case k4 => k_asm); (case k5 => k_asm); (case k6 => k_is); (case k7 => k_is); (case k8 => walk_at "mine room"); (case k9 => exact BindsTo.of_eq rfl); (case c5 => decide); (case kB => exact locs rfl); (case c2 => exact rfl); (case c3 => exact rfl); (case c4 => exact rfl); k_whole; intro gZ' LZ' hZ' tkZ' FGZ' FZ' NZ' BZ' XZ' TZ'; (try dsimp only); (try k_fold)))
  trivial
theorem int_eq {a b : Int} {t : Tok} (h : a = b) : Value.int a t = Value.int b t := by rw [h]
/-- the walk halts at what is so marked -/
noncomputable def Stop (P : Prop) : Prop := P
theorem stop_ {P : Prop} (h : Stop P) : P := h
theorem say_01_2 : True := by
  k_with "exec While BoolOp cons nil" => ((k_here; refine stop_ ?_))
  trivial
theorem say_01_3 : True := by
  k_with "exec While Compare cons nil" => ((k_here; refine stop_ ?_))
  trivial

theorem anew_02 : True := by w_top off; trivial
noncomputable def sq (ring base p : Int) : Int := (base + p) % ring
theorem sq_add {ring base p : Int} (n : Int) : (sq ring base p + n) % ring = sq ring base (p + n) := by
  unfold sq
  rw [Int.emod_add_emod, Int.add_assoc]
theorem sq_sub {ring base p q : Int} (h0 : 0 ≤ q - p) (h1 : q - p < ring) : (sq ring base q - sq ring base p) % ring = q - p := by
  unfold sq
  rw [← Int.sub_emod, show base + q - (base + p) = q - p by (first | lia | omega), Int.emod_eq_of_lt h0 h1]
theorem sq_sub_neg {ring base p q : Int} (h0 : q - p < 0) (h1 : p - q < ring) : (sq ring base q - sq ring base p) % ring = ring + (q - p) := by
  unfold sq
  rw [← Int.sub_emod, show base + q - (base + p) = q - p by (first | lia | omega), ← Int.add_emod_left, Int.emod_eq_of_lt (by (first | lia | omega)) (by (first | lia | omega))]
theorem sq_inj {ring base p q : Int} (h1 : p - q < ring) (h2 : q - p < ring) (e : sq ring base p = sq ring base q) : p = q := by
  have h : (sq ring base q - sq ring base p) % ring = 0 := by rw [e]; simp
  by_cases h0 : 0 ≤ q - p
  · rw [sq_sub h0 h2] at h; (first | lia | omega)
  · rw [sq_sub_neg (by (first | lia | omega)) h1] at h; (first | lia | omega)
theorem fm {a b : Int} (h : 0 < b) : a.fmod b = a % b := Int.fmod_eq_emod_of_nonneg _ (Int.le_of_lt h)
section
variable {w : World} {mean : ExcName → Option Value} {mg mb : Str → Option Value} {news : Led}
end
theorem say_02_1 : True := by
  k_with "mine use" => (((case B => k_asm); (case F => k_asm); (case X => k_asm); (case N => k_asm); (case T => k_asm); (case hk => first | exact rfl | assumption); (case hd => walk_at "mine room"); (case hu => walk_at "mine units")))
  trivial
theorem say_02_2 : True := by
  k_with "mine side" => (first | assumption | (first | lia | omega) | ((refine ⟨?_, ?_⟩) <;> first | assumption | (first | lia | omega)))
  trivial
section
variable {w : World} {mean : ExcName → Option Value} {mg mb : Str → Option Value} {news : Led}
theorem plus_spec0 {a n ring : Int} {ta tn tr : Tok} (hr : 0 < ring) : Spec w mean mg mb 28 2 [.int a ta, .int n tn, .int ring tr] news (fun r news' => news' = news ∧ ∃ t, r = .int ((a + n) % ring) t) := by
  unfold Spec; k_fill; intro dp un gd cn cs a' ccd cl outer A₀ base h₀ L m s Q E B F X N T hk hdp hun hret
  refine wpAny_call ?_
  k_dflt cell_enter
  k_steps
  exact hret _ _ _ _ (by k_asm) (by k_asm) ⟨rfl, _, by rw [fm hr]⟩
theorem plus_spec {p n ring bs : Int} {ta tn tr : Tok} (hr : 0 < ring) : Spec w mean mg mb 28 2 [.int (sq ring bs p) ta, .int n tn, .int ring tr] news (fun r news' => news' = news ∧ ∃ t, r = .int (sq ring bs (p + n)) t) := by
  have h := plus_spec0 (w := w) (mean := mean) (mg := mg) (mb := mb) (news := news) (a := sq ring bs p) (n := n) (ta := ta) (tn := tn) (tr := tr) hr
  rw [sq_add] at h
  exact h
theorem distance_spec0 {a b ring : Int} {ta tn tr : Tok} (hr : 0 < ring) : Spec w mean mg mb 35 2 [.int a ta, .int b tn, .int ring tr] news (fun r news' => news' = news ∧ ∃ t, r = .int ((b - a) % ring) t) := by
  unfold Spec; k_fill; intro dp un gd cn cs a' ccd cl outer A₀ base h₀ L m s Q E B F X N T hk hdp hun hret
  refine wpAny_call ?_
  k_dflt cell_enter
  k_steps
  exact hret _ _ _ _ (by k_asm) (by k_asm) ⟨rfl, _, by rw [fm hr]⟩
theorem distance_spec {p q ring bs : Int} {ta tn tr : Tok} (hr : 0 < ring) (h : 0 ≤ q - p ∧ q - p < ring) : Spec w mean mg mb 35 2 [.int (sq ring bs p) ta, .int (sq ring bs q) tn, .int ring tr] news (fun r news' => news' = news ∧ ∃ t, r = .int (q - p) t) := by
  have h' := distance_spec0 (w := w) (mean := mean) (mg := mg) (mb := mb) (news := news) (a := sq ring bs p) (b := sq ring bs q) (ta := ta) (tn := tn) (tr := tr) hr
  rw [sq_sub h.1 h.2] at h'
  exact h'
end
theorem say_02_3 : True := by
  k_with "call ref" => ((k_here; (with_reducible show wpAny _ _ (call (Value.ref 35) _) _ _ _); k_dflt (first
  | (refine' Spec.useI (distance_spec ?h1 ?h2) ?B ?F ?X ?N ?T ?hk ?hd ?hu ?_; (case h2 => walk_at "mine side"); (case h1 => walk_at "mine side"); walk_at "mine use")
  | (refine' Spec.useI (distance_spec0 ?h1) ?B ?F ?X ?N ?T ?hk ?hd ?hu ?_; (case h1 => walk_at "mine side"); walk_at "mine use")); intro tZ' hZ' tkZ' FZ' NZ'; (try dsimp only); (try k_sweep); (try k_fold)))
  trivial
theorem say_02_4 : True := by
  k_with "call ref" => ((k_here; (with_reducible show wpAny _ _ (call (Value.ref 28) _) _ _ _); k_dflt (first
  | (refine' Spec.useI (plus_spec ?h1) ?B ?F ?X ?N ?T ?hk ?hd ?hu ?_; (case h1 => walk_at "mine side"); walk_at "mine use")
  | (refine' Spec.useI (plus_spec0 ?h1) ?B ?F ?X ?N ?T ?hk ?hd ?hu ?_; (case h1 => walk_at "mine side"); walk_at "mine use")); intro tZ' hZ' tkZ' FZ' NZ'; (try dsimp only); (try k_sweep); (try k_fold)))
  trivial
section
variable {w : World} {mean : ExcName → Option Value} {mg mb : Str → Option Value} {news : Led}
theorem is_before_spec0 {a b ring : Int} {ta tn tr : Tok} (hr : 0 < ring) : Spec w mean mg mb 42 4 [.int a ta, .int b tn, .int ring tr] news (fun r news' => news' = news ∧ r = .bool (decide (0 < (b - a) % ring ∧ 2 * ((b - a) % ring) < ring))) := by
  unfold Spec; k_fill; intro dp un gd cn cs a' ccd cl outer A₀ base h₀ L m s Q E B F X N T hk hdp hun hret
  refine wpAny_call ?_
  k_dflt cell_enter
  k_steps
  all_goals (refine hret _ _ _ _ (by k_asm) (by k_asm) ⟨rfl, ?_⟩; (refine congrArg Value.bool (decide_eq_decide.mpr ?_)); (try simp only [decide_eq_true_eq, decide_eq_false_iff_not] at *); (first | lia | omega))
theorem is_before_spec {p q ring bs : Int} {ta tn tr : Tok} (hr : 0 < ring) (h : 2 * (q - p) < ring ∧ 2 * (p - q) ≤ ring) : Spec w mean mg mb 42 4 [.int (sq ring bs p) ta, .int (sq ring bs q) tn, .int ring tr] news (fun r news' => news' = news ∧ r = .bool (decide (p < q))) := by
  have h' := is_before_spec0 (w := w) (mean := mean) (mg := mg) (mb := mb) (news := news) (a := sq ring bs p) (b := sq ring bs q) (ta := ta) (tn := tn) (tr := tr) hr
  have e : decide (0 < (sq ring bs q - sq ring bs p) % ring ∧ 2 * ((sq ring bs q - sq ring bs p) % ring) < ring) = decide (p < q) := by
    by_cases h0 : 0 ≤ q - p
    · rw [sq_sub h0 (by (first | lia | omega))]; apply decide_eq_decide.mpr; (first | lia | omega)
    · rw [sq_sub_neg (by (first | lia | omega)) (by (first | lia | omega))]; apply decide_eq_decide.mpr; (first | lia | omega)
  rw [e] at h'
  exact h'
end
theorem say_02_5 : True := by
  k_with "call ref" => ((k_here; (with_reducible show wpAny _ _ (call (Value.ref 42) _) _ _ _); k_dflt (
  (refine' Spec.useB (is_before_spec ?h1 ?h2) ?B ?F ?X ?N ?T ?hk ?hd ?hu ?_; (case h2 => walk_at "mine side"); (case h1 => walk_at "mine side"); walk_at "mine use")); intro hZ' tkZ' FZ' NZ'; (try dsimp only); (try k_sweep); (try k_fold)))
  trivial
section
variable {w : World} {mean : ExcName → Option Value} {mg mb : Str → Option Value} {news : Led}
theorem is_at_most_spec {p q ring bs : Int} {ta tn tr : Tok} (hr : 0 < ring) (h : 2 * (q - p) < ring ∧ 2 * (p - q) ≤ ring) : Spec w mean mg mb 49 6 [.int (sq ring bs p) ta, .int (sq ring bs q) tn, .int ring tr] news (fun r news' => news' = news ∧ r = .bool (decide (p ≤ q))) := by
  unfold Spec; k_fill; intro dp un gd cn cs a' ccd cl outer A₀ base h₀ L m s Q E B F X N T hk hdp hun hret
  refine wpAny_call ?_
  k_dflt cell_enter
  k_steps
  · rename (sq ring bs p = sq ring bs q) => e
    refine hret _ _ _ _ (by k_asm) (by k_asm) ⟨rfl, ?_⟩
    have := sq_inj (by (first | lia | omega)) (by (first | lia | omega)) e
    subst this
    simp
  · rename (sq ring bs p ≠ sq ring bs q) => e
    refine hret _ _ _ _ (by k_asm) (by k_asm) ⟨rfl, ?_⟩
    congr 1
    apply decide_eq_decide.mpr
    have : p ≠ q := fun h => e (by rw [h])
    (first | lia | omega)
end
theorem say_02_6 : True := by
  k_with "call ref" => ((k_here; (with_reducible show wpAny _ _ (call (Value.ref 49) _) _ _ _); k_dflt (
  (refine' Spec.useB (is_at_most_spec ?h1 ?h2) ?B ?F ?X ?N ?T ?hk ?hd ?hu ?_; (case h2 => walk_at "mine side"); (case h1 => walk_at "mine side"); walk_at "mine use")); intro hZ' tkZ' FZ' NZ'; (try dsimp only); (try k_sweep); (try k_fold)))
  trivial

theorem anew_03 : True := by w_top off; trivial
/-- how a turn of a loop over a list ends: the iterator's entry stands, the word holds for the next turn; by a break: Ex holds -/
noncomputable def TurnEnd (h₀ : Heap) (L : Addr) (it : Addr × Obj) (J Ex : (Str → Option Value) → Led → Prop) (s₁ : Shared) (Q : Flow → Shared → Prop) (f : Flow) (s₂ : Shared) : Prop :=
  match f with
  | .ret v => Q (.ret v) s₂
  | .brk => ∃ h' tk m' nx, s₂ = { s₁ with heap := h', toks := tk } ∧ Fr h₀ L h' m' ∧ News h₀ L h' nx ∧ Ex m' nx
  | _ => ∃ h' tk m' nx, s₂ = { s₁ with heap := h', toks := tk } ∧ Fr h₀ L h' m' ∧ News h₀ L h' (it :: nx) ∧ (∀ p ∈ nx, p.1 ≠ it.1) ∧ J m' nx
section
variable {h₀ : Heap} {L : Addr} {it : Addr × Obj} {J Ex : (Str → Option Value) → Led → Prop} {s₁ : Shared} {Q : Flow → Shared → Prop} {m' : Str → Option Value} {news' nx : Led} {h' : Heap} {tk : Nat}
theorem TurnEnd.next (F : Fr h₀ L h' m') (N : News h₀ L h' news') (hi : it ∈ news') (hn : ∀ p ∈ nx, p ∈ news') (ha : ∀ p ∈ nx, p.1 ≠ it.1) (hJ : J m' nx) : TurnEnd h₀ L it J Ex s₁ Q .next { s₁ with heap := h', toks := tk } :=
  ⟨h', tk, m', nx, rfl, F, fun p hp => by rcases List.mem_cons.mp hp with rfl | hp; exact N _ hi; exact N _ (hn _ hp), ha, hJ⟩
theorem TurnEnd.cont (F : Fr h₀ L h' m') (N : News h₀ L h' news') (hi : it ∈ news') (hn : ∀ p ∈ nx, p ∈ news') (ha : ∀ p ∈ nx, p.1 ≠ it.1) (hJ : J m' nx) : TurnEnd h₀ L it J Ex s₁ Q .cont { s₁ with heap := h', toks := tk } :=
  ⟨h', tk, m', nx, rfl, F, fun p hp => by rcases List.mem_cons.mp hp with rfl | hp; exact N _ hi; exact N _ (hn _ hp), ha, hJ⟩
theorem TurnEnd.brk (F : Fr h₀ L h' m') (N : News h₀ L h' news') (hn : ∀ p ∈ nx, p ∈ news') (hJ : Ex m' nx) : TurnEnd h₀ L it J Ex s₁ Q .brk { s₁ with heap := h', toks := tk } :=
  ⟨h', tk, m', nx, rfl, F, fun p hp => N _ (hn _ hp), hJ⟩
end
section
variable {prog : Program} {w : World} {A : Around} {E : Value → Shared → Prop} {s : Shared} {env : Env} {h₀ : Heap} {target : Expr} {body : List Stmt} {Q : Flow → Shared → Prop}
theorem my_iter {l : Addr} {vs : List Value} {nn : Nat} {m₀ : Str → Option Value} {news : Led} (J : Nat → (Str → Option Value) → Led → Prop) (Ex : (Str → Option Value) → Led → Prop)
    (hh : A.handled = none) (hl : (l, listOf vs.toArray nn) ∈ news) (F : Fr h₀ env.locals s.heap m₀) (N : News h₀ env.locals s.heap news) (hj : J 0 m₀ news)
    (turn : ∀ i v m₁ nx h tk I o, vs[i]? = some v → (∀ p ∈ nx, p.1 ≠ I) → (l, listOf vs.toArray nn) ∈ nx → J i m₁ nx → Fr h₀ env.locals h m₁ → News h₀ env.locals h ((I, o) :: nx) →
      ∀ Qz, (∀ f s₂, TurnEnd h₀ env.locals (I, o) (fun m' nx' => (l, listOf vs.toArray nn) ∈ nx' ∧ J (i + 1) m' nx') Ex { s with heap := h, toks := tk } Q f s₂ → EndOf Qz f s₂) →
      wpAny (model prog w) A (assign target env v) (fun _ s₂ => wpAny (model prog w) A (execs body env) (EndOf Qz) E s₂) E { s with heap := h, toks := tk })
    (done : ∀ m₁ nx, (l, listOf vs.toArray nn) ∈ nx → J vs.length m₁ nx → Ex m₁ nx)
    (out : ∀ m₁ nx h tk, Ex m₁ nx → Fr h₀ env.locals h m₁ → News h₀ env.locals h nx → Q .next { s with heap := h, toks := tk }) :
    wpAny (model prog w) A (pyIter (.ref l)) (fun it s₂ => TurnsAt prog w A h₀ env target body Q E it s₂) E s := by
  have hol : s.heap.get? l = some (listOf vs.toArray nn) := (N _ hl).1
  have hls : s.heap.IsList l vs.toArray := ⟨_, hol, rfl, nn, rfl⟩
  have hne : l ≠ s.heap.objs.size := Nat.ne_of_lt (Heap.lt_size hol)
  refine wpAny_pyIter_list hls ?_
  have W := Walks.list (prog := prog) (w := w) hh s.heap.objs.size l hne vs.toArray
  have hlen : vs.toArray.size = vs.length := by simp
  rw [hlen] at W
  refine ⟨_, _, _, vs.length, _, _, _, m₀, news, (fun i m nx => (l, listOf vs.toArray nn) ∈ nx ∧ J i m nx), rfl, KTurns.ofWalks W (fun i v s Q E st q => letGo_listiter st.1 q), ?_, ?_, ?_, ⟨⟨_, Heap.get?_push_size _ rfl, rfl, rfl⟩, hls.at fun o e => Heap.get?_push_of_some _ e⟩, F.push _, (fun p hp => ⟨Heap.get?_push_of_some _ (N p hp).1, (N p hp).2⟩), ⟨hl, hj⟩, ?_, ?_⟩
  · intro hm
    rcases List.mem_cons.mp hm with e | hm
    · exact absurd F.ns.lt (e ▸ Nat.lt_irrefl _)
    · exact (N _ hl).2.1 ((List.mem_singleton.mp hm).symm)
  · intro b hb
    rw [List.mem_singleton.mp hb]
    exact next_is_new F
  · intro p hp hI
    exact absurd (Heap.lt_size (N p hp).1) ((List.mem_singleton.mp hI) ▸ Nat.lt_irrefl _)
  · rintro i v m₁ news₁ hh' tk' own hin hP ⟨hl₁, hJ⟩ hoff hown hget hfp hst F₁ N₁
    have hP' : vs[i]? = some v := by simpa using hP
    have hI0 : h₀.get? s.heap.objs.size = none := next_is_new F
    obtain ⟨⟨oI, hoI, _⟩, _⟩ := id hst
    have hIown : (s.heap.objs.size, oI) ∈ own := hfp _ (List.mem_cons.mpr (.inl rfl)) hI0 _ hoI
    have hsep : ∀ p ∈ news₁, p.1 ≠ s.heap.objs.size := fun p hp e => hoff p hp (List.mem_singleton.mpr e)
    have N₂ : News h₀ env.locals hh' ((s.heap.objs.size, oI) :: news₁) := fun p hp => by
      rcases List.mem_cons.mp hp with rfl | hp
      · exact N₁ _ (List.mem_append.mpr (.inl hIown))
      · exact N₁ _ (List.mem_append.mpr (.inr hp))
    have hlo : hh'.get? l = some (listOf vs.toArray nn) := (N₁ _ (List.mem_append.mpr (.inr hl₁))).1
    refine wpAny_mono (turn i v m₁ news₁ hh' tk' _ oI hP' hsep hl₁ hJ F₁ N₂ _ fun _ _ x => x) (fun _ s₂ h₂ => wpAny_mono h₂ (fun f s₃ p => ?_) fun _ _ e => e) fun _ _ e => e
    have fin : (∃ h' tk m' nx, s₃ = { ({ s with heap := hh', toks := tk' } : Shared) with heap := h', toks := tk } ∧ Fr h₀ env.locals h' m' ∧ News h₀ env.locals h' ((s.heap.objs.size, oI) :: nx) ∧ (∀ p ∈ nx, p.1 ≠ s.heap.objs.size) ∧ (l, listOf vs.toArray nn) ∈ nx ∧ J (i + 1) m' nx) →
        LoopStepU h₀ env.locals [s.heap.objs.size] own (fun m nx => (l, listOf vs.toArray nn) ∈ nx ∧ J (i + 1) m nx) { s with heap := hh', toks := tk' } .next s₃ := by
      rintro ⟨h', tk, m', nx, e, F', N', ha, hl', hJ'⟩
      refine ⟨rfl, h', tk, m', nx, e, F', fun p hp => ?_, fun p hp hq => ?_, hl', hJ'⟩
      · rcases List.mem_append.mp hp with h | h
        · rcases List.mem_cons.mp (hown p h) with h2 | h2
          · have h3 := hget p h
            rw [h2, hoI] at h3
            have h4 : p = (s.heap.objs.size, oI) := Prod.ext h2 (Option.some.inj h3).symm
            rw [h4]
            exact N' _ (.head _)
          · have h1 : p.1 = l := List.mem_singleton.mp h2
            have h2 : hh'.get? p.1 = some p.2 := hget p h
            rw [h1, hlo] at h2
            have h3 : p = (l, listOf vs.toArray nn) := Prod.ext h1 (Option.some.inj h2).symm
            rw [h3]
            exact N' _ (.tail _ hl')
        · exact N' p (.tail _ h)
      · exact ha p hp (List.mem_singleton.mp hq)
    cases f with
    | ret v => exact .ret p
    | brk =>
      obtain ⟨h', tk, m', nx, rfl, F', N', hx⟩ := p
      exact .brk (out m' nx h' tk hx F' N')
    | next => exact .next (fin p)
    | cont => exact .cont (fin p)
  · rintro h' tk m' news' F' N' _ ⟨hl', hJ⟩
    exact out m' news' h' tk (done m' news' hl' hJ) F' N'
end
theorem News.drop1 {h₀ h : Heap} {L : Addr} {a b : Addr × Obj} {r : Led} (N : News h₀ L h (a :: b :: r)) : News h₀ L h (b :: r) := fun p hp => N p (.tail _ hp)
theorem News.swap12 {h₀ h : Heap} {L : Addr} {a b c : Addr × Obj} {r : Led} (N : News h₀ L h (a :: b :: c :: r)) : News h₀ L h (c :: b :: r) := fun p hp => by
  rcases List.mem_cons.mp hp with rfl | hp
  · exact N _ (.tail _ (.tail _ (.head _)))
  rcases List.mem_cons.mp hp with rfl | hp
  · exact N _ (.tail _ (.head _))
  · exact N _ (.tail _ (.tail _ (.tail _ hp)))
theorem ne_lt {R : Led} {F : Addr} (h : ∀ p ∈ R, p.1 < F) : ∀ p ∈ R, p.1 ≠ F := fun p hp => Nat.ne_of_lt (h p hp)
theorem cons_ne {R : Led} {q : Addr × Obj} {F : Addr} (h : ∀ p ∈ R, p.1 ≠ F) (k : q.1 ≠ F) : ∀ p ∈ q :: R, p.1 ≠ F := List.forall_mem_cons.mpr ⟨k, h⟩
theorem sub_cons {R S : Led} {q : Addr × Obj} (h : ∀ p ∈ R, p ∈ S) : ∀ p ∈ R, p ∈ q :: S := fun p hp => .tail _ (h p hp)
local macro_rules | `(tactic| k_all) => `(tactic| assumption)
local macro_rules | `(tactic| k_ne) => `(tactic| first | assumption | (refine Ne.symm ?_; assumption))
theorem push_listOf {l : List Value} {v : Value} {n : Nat} : listOf (l.toArray.push v) n = listOf (l ++ [v]).toArray n := by rw [List.push_toArray]
theorem allLt_ne {d : Addr} {l : Led} (h : AllLt d l) : ∀ p ∈ l, p.1 ≠ d := fun p hp => Nat.ne_of_lt (ktn_ltOf h p hp)
/-- a tuple was made and appended to the list at F, in a turn of a loop -/
theorem grow {h₀ h : Heap} {L It F D : Addr} {o o2 : Obj} {R : Led} {rl : List Value} {fn : Nat} (hl1 : It < D ∧ F < D ∧ AllLt D R) (hoff : ∀ p ∈ R, p.1 ≠ It) (hFI : F ≠ It) (hF : ∀ p ∈ R, p.1 ≠ F)
    (N : News h₀ L h ((D, o2) :: (It, o) :: (F, listOf (rl.toArray.push (Value.ref D)) (fn + 1)) :: R)) :
    News h₀ L h ((It, o) :: (F, listOf (rl ++ [Value.ref D]).toArray (fn + 1)) :: (D, o2) :: R) ∧ (∀ p ∈ (F, listOf (rl ++ [Value.ref D]).toArray (fn + 1)) :: (D, o2) :: R, p.1 ≠ It) ∧ ∀ p ∈ (D, o2) :: R, p.1 ≠ F := by
  rw [push_listOf] at N
  refine ⟨fun p hp => N p ?_, all2 hFI (all2 (Nat.ne_of_gt hl1.1) hoff), all2 (Nat.ne_of_gt hl1.2.1) hF⟩
  rcases List.mem_cons.mp hp with rfl | hp
  · exact .tail _ (.head _)
  rcases List.mem_cons.mp hp with rfl | hp
  · exact .tail _ (.tail _ (.head _))
  rcases List.mem_cons.mp hp with rfl | hp
  · exact .head _
  · exact .tail _ (.tail _ (.tail _ hp))
/-- the same, no loop's iterator being there -/
theorem grow0 {h₀ h : Heap} {L F D : Addr} {o2 : Obj} {R : Led} {rl : List Value} {fn : Nat} (hl1 : F < D ∧ AllLt D R) (hF : ∀ p ∈ R, p.1 ≠ F)
    (N : News h₀ L h ((D, o2) :: (F, listOf (rl.toArray.push (Value.ref D)) (fn + 1)) :: R)) :
    News h₀ L h ((F, listOf (rl ++ [Value.ref D]).toArray (fn + 1)) :: (D, o2) :: R) ∧ ∀ p ∈ (D, o2) :: R, p.1 ≠ F := by
  rw [push_listOf] at N
  refine ⟨fun p hp => N p ?_, all2 (Nat.ne_of_gt hl1.1) hF⟩
  rcases List.mem_cons.mp hp with rfl | hp
  · exact .tail _ (.head _)
  rcases List.mem_cons.mp hp with rfl | hp
  · exact .head _
  · exact .tail _ (.tail _ hp)
/-- how a turn of a while ends -/
noncomputable def WhileEnd (h₀ : Heap) (L : Addr) (s : Shared) (J : Nat → (Str → Option Value) → Led → Prop) (Ex : (Str → Option Value) → Led → Prop) (n : Nat) (Q : Flow → Shared → Prop) (f : Flow) (s₂ : Shared) : Prop :=
  match f with
  | .ret v => Q (.ret v) s₂
  | .brk => ∃ h' tk m' nx, s₂ = { s with heap := h', toks := tk } ∧ Fr h₀ L h' m' ∧ News h₀ L h' nx ∧ Ex m' nx
  | _ => ∃ h' tk m' nx k, s₂ = { s with heap := h', toks := tk } ∧ Fr h₀ L h' m' ∧ News h₀ L h' nx ∧ k < n ∧ J k m' nx
inductive WhileOut (h₀ : Heap) (L : Addr) (s : Shared) (Ex : (Str → Option Value) → Led → Prop) (s₂ : Shared) : Prop
  | mk : ∀ h' tk m' nx, s₂ = { s with heap := h', toks := tk } →
    Fr h₀ L h' m' →
    News h₀ L h' nx →
    Ex m' nx → WhileOut h₀ L s Ex s₂
section
variable {prog : Program} {w : World} {A : Around} {E : Value → Shared → Prop} {Q : Flow → Shared → Prop} {s : Shared} {env : Env} {h₀ : Heap} {L : Addr}
theorem my_while {test : PySem.Expr} {body : List Stmt} {pos : Pos} {m : Str → Option Value} {news : Led} (J : Nat → (Str → Option Value) → Led → Prop) (Ex : (Str → Option Value) → Led → Prop) {n₀ : Nat}
    (F : Fr h₀ L s.heap m) (N : News h₀ L s.heap news) (hJ : J n₀ m news)
    (turn : ∀ n m₁ nx h tk, J n m₁ nx → Fr h₀ L h m₁ → News h₀ L h nx → ∀ Qz, (∀ f s₂, WhileEnd h₀ L s J Ex n Q f s₂ → EndOf Qz f s₂) →
      wpAny (model prog w) A (isTrue test env (eval test env)) (fun b s₂ => if b = true then wpAny (model prog w) A (execs body env) (EndOf Qz) E s₂ else WhileOut h₀ L s Ex s₂) E { s with heap := h, toks := tk })
    (out : ∀ m₁ nx h tk, Ex m₁ nx → Fr h₀ L h m₁ → News h₀ L h nx → Q .next { s with heap := h, toks := tk })
    (hE : PassesOwn (model prog w) A env E := by passes_own) :
    wpAny (model prog w) A (exec (.While test body [] pos) env) Q E s := by
  refine While_inv2 J F N hJ ?_ hE
  intro n m₁ nx h tk F₁ N₁ hJ₁
  refine wpAny_mono (turn n m₁ nx h tk hJ₁ F₁ N₁ _ fun _ _ x => x) (fun b s₂ p => ?_) fun _ _ x => x
  cases b with
  | false =>
    simp only [Bool.false_eq_true, if_false] at p ⊢
    obtain ⟨h', tk', m', nx', rfl, F', N', hx⟩ := p
    exact out m' nx' h' tk' hx F' N'
  | true =>
    simp only [if_true] at p ⊢
    refine wpAny_mono p (fun f s₃ q => ?_) fun _ _ x => x
    cases f with
    | ret v => exact q
    | brk =>
      obtain ⟨h', tk', m', nx', rfl, F', N', hx⟩ := q
      exact out m' nx' h' tk' hx F' N'
    | next =>
      obtain ⟨h', tk', m', nx', k, rfl, F', N', hk, hx⟩ := q
      exact ⟨h', tk', m', nx', k, rfl, F', N', hk, hx⟩
    | cont =>
      obtain ⟨h', tk', m', nx', k, rfl, F', N', hk, hx⟩ := q
      exact ⟨h', tk', m', nx', k, rfl, F', N', hk, hx⟩
end
section
variable {h₀ h' : Heap} {L : Addr} {s : Shared} {J : Nat → (Str → Option Value) → Led → Prop} {Ex : (Str → Option Value) → Led → Prop} {n k : Nat} {Q : Flow → Shared → Prop} {m' : Str → Option Value} {news' nx : Led} {tk : Nat}
theorem WhileEnd.next (F : Fr h₀ L h' m') (N : News h₀ L h' news') (hn : ∀ p ∈ nx, p ∈ news') (hk : k < n) (hJ : J k m' nx) : WhileEnd h₀ L s J Ex n Q .next { s with heap := h', toks := tk } := ⟨h', tk, m', nx, k, rfl, F, fun p hp => N _ (hn _ hp), hk, hJ⟩
theorem WhileEnd.cont (F : Fr h₀ L h' m') (N : News h₀ L h' news') (hn : ∀ p ∈ nx, p ∈ news') (hk : k < n) (hJ : J k m' nx) : WhileEnd h₀ L s J Ex n Q .cont { s with heap := h', toks := tk } := ⟨h', tk, m', nx, k, rfl, F, fun p hp => N _ (hn _ hp), hk, hJ⟩
theorem WhileOut.intro (F : Fr h₀ L h' m') (N : News h₀ L h' news') (hn : ∀ p ∈ nx, p ∈ news') (hJ : Ex m' nx) : WhileOut h₀ L s Ex { s with heap := h', toks := tk } := ⟨h', tk, m', nx, rfl, F, fun p hp => N _ (hn _ hp), hJ⟩
end
theorem grow2 {h₀ h : Heap} {L It F S D : Addr} {o o2 o3 : Obj} {R : Led} {rl : List Value} {fn : Nat} (hl1 : It < D ∧ F < D ∧ S < D ∧ AllLt D R) (hoff : ∀ p ∈ R, p.1 ≠ It) (hFI : F ≠ It) (hSI : S ≠ It) (hF : ∀ p ∈ R, p.1 ≠ F) (hS : ∀ p ∈ R, p.1 ≠ S)
    (N : News h₀ L h ((D, o2) :: (It, o) :: (F, listOf (rl.toArray.push (Value.ref D)) (fn + 1)) :: (S, o3) :: R)) :
    News h₀ L h ((It, o) :: (F, listOf (rl ++ [Value.ref D]).toArray (fn + 1)) :: (S, o3) :: (D, o2) :: R) ∧ (∀ p ∈ (F, listOf (rl ++ [Value.ref D]).toArray (fn + 1)) :: (S, o3) :: (D, o2) :: R, p.1 ≠ It) ∧ (∀ p ∈ (D, o2) :: R, p.1 ≠ F) ∧ ∀ p ∈ (D, o2) :: R, p.1 ≠ S := by
  rw [push_listOf] at N
  refine ⟨fun p hp => N p ?_, all2 hFI (all2 hSI (all2 (Nat.ne_of_gt hl1.1) hoff)), all2 (Nat.ne_of_gt hl1.2.1) hF, all2 (Nat.ne_of_gt hl1.2.2.1) hS⟩
  rcases List.mem_cons.mp hp with rfl | hp
  · exact .tail _ (.head _)
  rcases List.mem_cons.mp hp with rfl | hp
  · exact .tail _ (.tail _ (.head _))
  rcases List.mem_cons.mp hp with rfl | hp
  · exact .tail _ (.tail _ (.tail _ (.head _)))
  rcases List.mem_cons.mp hp with rfl | hp
  · exact .head _
  · exact .tail _ (.tail _ (.tail _ (.tail _ hp)))
theorem growG {h₀ h : Heap} {L It F D : Addr} {o o2 o3 : Obj} {R : Led} (hl1 : It < D ∧ F < D ∧ AllLt D R) (hoff : ∀ p ∈ R, p.1 ≠ It) (hFI : F ≠ It) (hF : ∀ p ∈ R, p.1 ≠ F)
    (N : News h₀ L h ((D, o2) :: (It, o) :: (F, o3) :: R)) :
    News h₀ L h ((It, o) :: (F, o3) :: (D, o2) :: R) ∧ (∀ p ∈ (F, o3) :: (D, o2) :: R, p.1 ≠ It) ∧ ∀ p ∈ (D, o2) :: R, p.1 ≠ F := by
  refine ⟨fun p hp => N p ?_, all2 hFI (all2 (Nat.ne_of_gt hl1.1) hoff), all2 (Nat.ne_of_gt hl1.2.1) hF⟩
  rcases List.mem_cons.mp hp with rfl | hp
  · exact .tail _ (.head _)
  rcases List.mem_cons.mp hp with rfl | hp
  · exact .tail _ (.tail _ (.head _))
  rcases List.mem_cons.mp hp with rfl | hp
  · exact .head _
  · exact .tail _ (.tail _ (.tail _ hp))

theorem anew_04 : True := by w_top off; trivial
/-- the octets of the places a .. b - 1: place p holds p + 1 -/
noncomputable def octL (a b : Int) : List UInt8 := (List.range (b - a).toNat).map fun i => UInt8.ofNat (a.toNat + i + 1)
noncomputable def octs (a b : Int) : Array UInt8 := (octL a b).toArray
theorem octL_length (a b : Int) : (octL a b).length = (b - a).toNat := by simp [octL]
theorem octs_size (a b : Int) : (octs a b).size = (b - a).toNat := by simp [octs, octL_length]
theorem octs_nil {a b : Int} (h : b ≤ a) : octs a b = #[] := by
  have : (b - a).toNat = 0 := by (first | lia | omega)
  simp [octs, octL, this]
theorem octs_ne {a b : Int} (h : a < b) : octs a b ≠ #[] := fun e => by
  have := octs_size a b
  rw [e] at this
  simp at this
  (first | lia | omega)
theorem octL_drop {a b : Int} (i : Nat) (ha : 0 ≤ a) : (octL a b).drop i = octL (a + i) b := by
  have e : (b - a).toNat - i = (b - (a + i)).toNat := by rw [← Int.sub_sub, Int.toNat_sub']
  have e2 : (a + i).toNat = a.toNat + i := Int.toNat_add_nat ha i
  rw [octL, octL, ← List.map_drop, List.range_eq_range', List.drop_range', e, e2, Nat.mul_one, Nat.zero_add, List.range'_eq_map_range, List.map_map]
  refine List.map_congr_left fun k _ => ?_
  show UInt8.ofNat (a.toNat + (i + k) + 1) = _
  rw [← Nat.add_assoc]
theorem toNat_min (x : Int) (j : Nat) : min j x.toNat = (min x j).toNat := by
  by_cases h : x ≤ j
  · rw [Int.min_eq_left h, Nat.min_eq_right (Int.toNat_le.mpr h)]
  · rw [Int.min_eq_right (Int.le_of_lt (Int.not_le.mp h)), Int.toNat_natCast, Nat.min_eq_left (Nat.le_of_lt (Int.lt_toNat.mpr (Int.not_le.mp h)))]
theorem octL_take {a b : Int} (j : Nat) : (octL a b).take j = octL a (min b (a + j)) := by
  have e : a + (j : Int) - a = j := by rw [Int.add_comm, Int.add_sub_cancel]
  rw [octL, octL, ← List.map_take, List.take_range, toNat_min, ← Int.sub_min_sub_right, e]
theorem octL_append {a b c : Int} (ha : 0 ≤ a) (h1 : a ≤ b) (h2 : b ≤ c) : octL a b ++ octL b c = octL a c := by
  have e : a + ((b - a).toNat : Int) = b := by rw [Int.toNat_of_nonneg (Int.sub_nonneg_of_le h1), Int.add_comm, Int.sub_add_cancel]
  have h3 := octL_take (a := a) (b := c) (b - a).toNat
  have h4 := octL_drop (b := c) (b - a).toNat ha
  rw [e, Int.min_eq_right h2] at h3
  rw [e] at h4
  rw [← h3, ← h4, List.take_append_drop]
theorem octs_append {a b c : Int} (ha : 0 ≤ a) (h1 : a ≤ b) (h2 : b ≤ c) : octs a b ++ octs b c = octs a c := by
  show (octL a b).toArray ++ (octL b c).toArray = _
  rw [List.append_toArray, octL_append ha h1 h2]; rfl
theorem octL_get {a b : Int} {i : Nat} (h : (i : Int) < b - a) : (octL a b)[i]? = some (UInt8.ofNat (a.toNat + i + 1)) := by
  have h1 : i < (b - a).toNat := Int.lt_toNat.mpr h
  simp [octL, h1]
theorem clip_pos {n : Nat} {i : Int} (h : 0 ≤ i) : clipAt n i = min i.toNat n := by
  have := clipAt_nat n i.toNat
  rwa [Int.toNat_of_nonneg h] at this
theorem pick_list {α : Type} (l : List α) (i j : Nat) : (l.drop (min i l.length)).take (min j l.length - min i l.length) = (l.take j).drop i := by
  rw [← List.drop_take, ← List.take_eq_take_min, List.drop_eq_drop_iff, List.length_take, Nat.min_assoc, Nat.min_eq_right (Nat.min_le_right j l.length)]
theorem picked_lo {a b i : Int} (ha : 0 ≤ a) (hi : 0 ≤ i) : KBy.picked (octs a b) (some i) none = octs (a + i) b := by
  have h := pick_list (octL a b) i.toNat (octL a b).length
  rw [Nat.min_self, List.take_length, octL_drop i.toNat ha, Int.toNat_of_nonneg hi] at h
  rw [KBc.picked_eq]
  simp only [Option.elim, clip_pos hi]
  exact congrArg List.toArray h
theorem picked_hi {a b j : Int} (hj : 0 ≤ j) : KBy.picked (octs a b) none (some j) = octs a (min b (a + j)) := by
  have h := pick_list (octL a b) 0 j.toNat
  rw [Nat.zero_min, octL_take, Int.toNat_of_nonneg hj] at h
  rw [KBc.picked_eq]
  simp only [Option.elim, clip_pos hj]
  exact congrArg List.toArray h
theorem picked_both {a b i j : Int} (ha : 0 ≤ a) (hi : 0 ≤ i) (hj : 0 ≤ j) : KBy.picked (octs a b) (some i) (some j) = octs (a + i) (min b (a + j)) := by
  have h := pick_list (octL a b) i.toNat j.toNat
  rw [octL_take, octL_drop i.toNat ha, Int.toNat_of_nonneg hi, Int.toNat_of_nonneg hj] at h
  rw [KBc.picked_eq]
  simp only [Option.elim, clip_pos hi, clip_pos hj]
  exact congrArg List.toArray h
section
variable {prog : Program} {w : World} {A : Around} {E : Value → Shared → Prop} {s : Shared} {value slice : PySem.Expr} {b : Array UInt8} {t : Tok} {h₀ : Heap} {L : Addr} {m : PySem.Str → Option Value} {news : List (Addr × Obj)} {l u : Value} {lo hi : Option Int} {Q : Value → Shared → Prop} {i j p q : Int} {ti tj : Tok}
theorem slice_O (hF : Fr h₀ L s.heap m) (hN : News h₀ L s.heap news) (hl : IsPart l lo) (hu : IsPart u hi) (hz : b.size ≤ 16777216)
    (h : ∀ h' t' k, Fr h₀ L h' m → News h₀ L h' news → Q (.bytes (KBy.picked b lo hi) t') { s with heap := h', toks := k })
    (hs : subscripted slice false (.bytes b t) (.ref s.heap.objs.size) = operate [.ref s.heap.objs.size, .bytes b t] (getItem (.bytes b t) (.ref s.heap.objs.size)) := by with_unfolding_all rfl)
    (ht : ∀ r, letTemporaryGo value (.bytes b t) r = pure () := by intro _; with_unfolding_all rfl) :
    wpAny (model prog w) A (subscriptTail value slice (.bytes b t) (.ref s.heap.objs.size)) Q E { s with heap := s.heap.push { cls := .type "slice", data := .fields #[l, u, .none] } } :=
  tail_of_ItemOn ⟨"bytes", _, FB.slot_bytes_getitem.lookup, typeIs_bytes _ _ _, getItem_meets (typeIs_bytes _ _ _) (by decide) FB.slot_bytes_getitem FB.entry_bytes_getitem (FB.args_bytes_getitem_2 _ _) (KBc.meets_slice2 b t _ hl hu)
    ⟨Heap.IsSliceOf.new _ _ _ _, Nat.le_trans (KBc.size_picked_le b lo hi) (by rw [sizeLine_eq]; exact hz), fun t' k => h _ _ _ (hF.push _) (News.pushKeep hN _)⟩⟩ hs ht
theorem slice_lo (hb : b = octs p q) (hF : Fr h₀ L s.heap m) (hN : News h₀ L s.heap news) (hp : 0 ≤ p ∧ 0 ≤ i) (hq : q ≤ 16777216)
    (h : ∀ h' t' k x, Fr h₀ L h' m → News h₀ L h' news → x = octs (p + i) q → Q (.bytes x t') { s with heap := h', toks := k })
    (hs : subscripted slice false (.bytes b t) (.ref s.heap.objs.size) = operate [.ref s.heap.objs.size, .bytes b t] (getItem (.bytes b t) (.ref s.heap.objs.size)) := by with_unfolding_all rfl)
    (ht : ∀ r, letTemporaryGo value (.bytes b t) r = pure () := by intro _; with_unfolding_all rfl) :
    wpAny (model prog w) A (subscriptTail value slice (.bytes b t) (.ref s.heap.objs.size)) Q E { s with heap := s.heap.push { cls := .type "slice", data := .fields #[.int i ti, .none, .none] } } :=
  slice_O hF hN (.int i ti) .none (by rw [hb, octs_size]; exact Int.toNat_le.mpr (Int.le_trans (Int.sub_le_self q hp.1) hq)) (fun h' t' k F' N' => h h' t' k _ F' N' (by rw [hb, picked_lo hp.1 hp.2])) hs ht
theorem slice_hi (hb : b = octs p q) (hF : Fr h₀ L s.heap m) (hN : News h₀ L s.heap news) (hp : 0 ≤ p ∧ 0 ≤ j) (hq : q ≤ 16777216)
    (h : ∀ h' t' k x, Fr h₀ L h' m → News h₀ L h' news → x = octs p (min q (p + j)) → Q (.bytes x t') { s with heap := h', toks := k })
    (hs : subscripted slice false (.bytes b t) (.ref s.heap.objs.size) = operate [.ref s.heap.objs.size, .bytes b t] (getItem (.bytes b t) (.ref s.heap.objs.size)) := by with_unfolding_all rfl)
    (ht : ∀ r, letTemporaryGo value (.bytes b t) r = pure () := by intro _; with_unfolding_all rfl) :
    wpAny (model prog w) A (subscriptTail value slice (.bytes b t) (.ref s.heap.objs.size)) Q E { s with heap := s.heap.push { cls := .type "slice", data := .fields #[.none, .int j tj, .none] } } :=
  slice_O hF hN .none (.int j tj) (by rw [hb, octs_size]; exact Int.toNat_le.mpr (Int.le_trans (Int.sub_le_self q hp.1) hq)) (fun h' t' k F' N' => h h' t' k _ F' N' (by rw [hb, picked_hi hp.2])) hs ht
theorem slice_both (hb : b = octs p q) (hF : Fr h₀ L s.heap m) (hN : News h₀ L s.heap news) (hp : 0 ≤ p ∧ 0 ≤ i ∧ 0 ≤ j) (hq : q ≤ 16777216)
    (h : ∀ h' t' k x, Fr h₀ L h' m → News h₀ L h' news → x = octs (p + i) (min q (p + j)) → Q (.bytes x t') { s with heap := h', toks := k })
    (hs : subscripted slice false (.bytes b t) (.ref s.heap.objs.size) = operate [.ref s.heap.objs.size, .bytes b t] (getItem (.bytes b t) (.ref s.heap.objs.size)) := by with_unfolding_all rfl)
    (ht : ∀ r, letTemporaryGo value (.bytes b t) r = pure () := by intro _; with_unfolding_all rfl) :
    wpAny (model prog w) A (subscriptTail value slice (.bytes b t) (.ref s.heap.objs.size)) Q E { s with heap := s.heap.push { cls := .type "slice", data := .fields #[.int i ti, .int j tj, .none] } } :=
  slice_O hF hN (.int i ti) (.int j tj) (by rw [hb, octs_size]; exact Int.toNat_le.mpr (Int.le_trans (Int.sub_le_self q hp.1) hq)) (fun h' t' k F' N' => h h' t' k _ F' N' (by rw [hb, picked_both hp.1 hp.2.1 hp.2.2])) hs ht
theorem len_O (hb : b = octs p q) (hq : 0 ≤ p ∧ p ≤ q ∧ q ≤ 16777216) (h : Q (.int (q - p) (s.toks + 1)) { s with toks := s.toks + 1 + 1 }) : wpAny (model prog w) A (call (.builtin "len") [.bytes b t]) Q E s :=
  len_bytes (by rw [hb, octs_size]; exact Int.toNat_le.mpr (Int.le_trans (Int.sub_le_self q hq.1) (Int.le_trans hq.2.2 (by decide)))) (by rw [hb, octs_size, Int.toNat_of_nonneg (Int.sub_nonneg_of_le hq.2.1)]; exact h)
variable {c : Array UInt8} {tc : Tok} {r : Int}
theorem add_O (hb : b = octs p q) (hc : c = octs j r) (hq : 0 ≤ p ∧ p ≤ q ∧ j = q ∧ q ≤ r ∧ r ≤ 1000000) (h : ∀ t' k x, x = octs p r → Q (.bytes x t') { s with toks := k }) : wpAny (model prog w) A (binaryOp .Add (.bytes b t) (.bytes c tc)) Q E s := by
  obtain ⟨h1, h2, rfl, h3, h4⟩ := hq
  exact KBy.add_bytes (by rw [hb, hc, octs_size, octs_size, ← Int.toNat_add (Int.sub_nonneg_of_le h2) (Int.sub_nonneg_of_le h3)]; exact Int.toNat_le.mpr (by lia)) fun t' k => h t' k _ (by rw [hb, hc, octs_append h1 h2 h3])
theorem toList_nil {b : Array UInt8} : (b.toList == ([] : List UInt8)) = decide (b = #[]) := by
  rcases b with ⟨l⟩
  cases l <;> simp
theorem ne_O {x : List UInt8} (hb : b = octs p q) (hx : x = []) (h : Q (.bool (decide (p < q))) s) : wpAny (model prog w) A (compareOp .NotEq (.bytes b t) (.bytes x.toArray tc)) Q E s := by
  refine ne_bytes ?_
  subst hx
  have e : (b.toList != ([] : List UInt8).toArray.toList) = decide (p < q) := by
    show (!(b.toList == ([] : List UInt8))) = _
    rw [toList_nil, hb]
    by_cases hpq : p < q
    · simp [octs_ne hpq, hpq]
    · simp [octs_nil (show q ≤ p by (first | lia | omega)), hpq]
  rw [e]
  exact h
theorem eq_O (hb : b = octs p q) (hc : c = octs i j) (he : p = i ∧ q = j) (h : Q (.bool true) s) : wpAny (model prog w) A (compareOp .Eq (.bytes b t) (.bytes c tc)) Q E s := by
  refine eq_bytes ?_
  obtain ⟨rfl, rfl⟩ := he
  rw [hb, hc, beq_self_eq_true]
  exact h
end
theorem say_04_1 : True := by
  k_with "mine octs" => (first | with_reducible rfl | assumption)
  trivial
theorem say_04_2 : True := by
  k_with "mine om" => (first | assumption | (first | lia | omega) | ((refine ⟨?_, ?_⟩) <;> walk_at "mine om"))
  trivial
theorem say_04_3 : True := by
  k_with "call builtin:len" => ((k_here; (with_reducible show wpAny _ _ (call (Value.builtin "len") [Value.bytes _ _]) _ _ _); refine len_O (by walk_at "mine octs") (by walk_at "mine om") ?_))
  trivial
theorem say_04_4 : True := by
  k_with "compareOp NotEq bytes bytes" => (refine ne_O (by walk_at "mine octs") rfl ?_)
  trivial
theorem say_04_5 : True := by
  k_with "compareOp Eq bytes bytes" => (refine eq_O (by walk_at "mine octs") (by walk_at "mine octs") (by walk_at "mine om") ?_)
  trivial
theorem say_04_6 : True := by
  k_with "binaryOp Add bytes bytes" => ((refine add_O (by walk_at "mine octs") (by walk_at "mine octs") (by walk_at "mine om") ?_; intro tZ' kZ' xZ' hxZ'))
  trivial
theorem say_04_7 : True := by
  k_with "subscriptTail" => ((k_here; (with_reducible show wpAny _ _ (subscriptTail _ (PySem.Expr.Slice _ _ none _) (Value.bytes _ _) (Value.ref _)) _ _ _); (with_reducible rename Fr _ _ _ _ => FZ'); (with_reducible rename News _ _ _ _ => NZ'); (first | refine slice_lo (s := ⟨_, _, _, _, _⟩) (by walk_at "mine octs") FZ' NZ' (by walk_at "mine om") (by walk_at "mine om") ?_ | refine slice_hi (s := ⟨_, _, _, _, _⟩) (by walk_at "mine octs") FZ' NZ' (by walk_at "mine om") (by walk_at "mine om") ?_ | refine slice_both (s := ⟨_, _, _, _, _⟩) (by walk_at "mine octs") FZ' NZ' (by walk_at "mine om") (by walk_at "mine om") ?_); intro hZ' tZ' kZ' xZ' FZ' NZ' hxZ'; (try k_sweep)))
  trivial

theorem anew_05 : True := by w_top off; trivial
noncomputable abbrev kv (w : World) (name : String) (tk : Tok) (v : Value) : DictEntry := ⟨PyData.keyHash w.params (Str.ofString name), .str (Str.ofString name) tk, v⟩
noncomputable abbrev asmD (w : World) (k1 k2 : Tok) (ring : Int) (t : Tok) (l : Addr) : Obj := dictOf [kv w "ring" k1 (.int ring t), kv w "parts" k2 (.ref l)] 2
section
variable {w : World} {mean : ExcName → Option Value} {mg mb : Str → Option Value} {news : Led}
theorem offset_spec {x dx l : Addr} {p q ring bs : Int} {k1 k2 t tp tq : Tok} (hx : (x, instObj 141 dx) ∈ news) (hdx : (dx, asmD w k1 k2 ring t l) ∈ news) (hr : 0 < ring) (h : 2 * (q - p) < ring ∧ 2 * (p - q) < ring) :
    Spec w mean mg mb 82 8 [.ref x, .int (sq ring bs p) tp, .int (sq ring bs q) tq] news (fun r news' => news' = news ∧ ∃ t, r = .int (p - q) t) := by
  unfold Spec; k_fill; intro dp un gd cn cs a' ccd cl outer A₀ base h₀ L m s Q E B F X N T hk hdp hun hret
  refine wpAny_call ?_
  k_dflt (refine' code_defM [("next", .int (sq ring bs q) tq), ("seq", .int (sq ring bs p) tp), ("self", .ref x)] ?k1 ?k2 ?k3 ?k4 ?k5 ?kA ?kF ?kK ?k6 ?k7 ?k8 ?k9 ?kB ?_ ?c2 ?c3 ?c4 ?c5; walk_at "mine enter")
  k_steps
  · exact hret _ _ _ _ (by k_asm) (by k_asm) ⟨rfl, _, int_eq (by (first | lia | omega))⟩
  · exact hret _ _ _ _ (by k_asm) (by k_asm) ⟨rfl, _, rfl⟩
end
theorem say_05_1 : True := by
  k_with "call ref" => ((k_here; (with_reducible show wpAny _ _ (call (Value.ref 82) _) _ _ _); k_dflt (
  (refine' Spec.useI (offset_spec ?hx ?hdx ?h1 ?h2) ?B ?F ?X ?N ?T ?hk ?hd ?hu ?_; walk_at "mine use"; (case hx => k_mem); (case hdx => k_mem); (case h1 => walk_at "mine om"); (case h2 => walk_at "mine om"))); intro tZ' hZ' tkZ' FZ' NZ'; (try dsimp only); (try k_sweep); (try k_fold)))
  trivial
section
variable {w : World} {mean : ExcName → Option Value} {mg mb : Str → Option Value} {news : Led}
end

theorem anew_06 : True := by w_top off; trivial
noncomputable abbrev tup2 (u v : Value) : Obj := { cls := .type "tuple", data := .seq #[u, v] }
noncomputable def TupsIn (news : Led) (g : Int → Int) : List Value → List (Int × Int) → Prop
  | [], [] => True
  | v :: vs, p :: ps => (∃ a t t', v = .ref a ∧ (a, tup2 (.int (g p.1) t) (.bytes (octs p.1 p.2) t')) ∈ news) ∧ TupsIn news g vs ps
  | _, _ => False
theorem TupsIn.mono {news news' : Led} {g : Int → Int} (hs : ∀ p ∈ news, p ∈ news') : ∀ {vs : List Value} {ps : List (Int × Int)}, TupsIn news g vs ps → TupsIn news' g vs ps
  | [], [], _ => True.intro
  | [], _ :: _, h => h.elim
  | _ :: _, [], h => h.elim
  | _ :: _, _ :: _, ⟨⟨a, t, t', e, hm⟩, h⟩ => ⟨⟨a, t, t', e, hs _ hm⟩, TupsIn.mono hs h⟩
theorem TupsIn.length {news : Led} {g : Int → Int} : ∀ {vs : List Value} {ps : List (Int × Int)}, TupsIn news g vs ps → vs.length = ps.length
  | [], [], _ => rfl
  | [], _ :: _, h => h.elim
  | _ :: _, [], h => h.elim
  | _ :: _, _ :: _, ⟨_, h⟩ => by rw [List.length_cons, List.length_cons, h.length]
theorem TupsIn.append {news : Led} {g : Int → Int} : ∀ {vs ws : List Value} {ps qs : List (Int × Int)}, TupsIn news g vs ps → TupsIn news g ws qs → TupsIn news g (vs ++ ws) (ps ++ qs)
  | [], _, [], _, _, k => k
  | [], _, _ :: _, _, h, _ => h.elim
  | _ :: _, _, [], _, h, _ => h.elim
  | _ :: _, _, _ :: _, _, ⟨h1, h⟩, k => ⟨h1, h.append k⟩
theorem TupsIn.snoc {news : Led} {g : Int → Int} {vs : List Value} {ps : List (Int × Int)} {a : Addr} {i p q : Int} {b : Array UInt8} {t t' : Tok} (h : TupsIn news g vs ps) (hm : (a, tup2 (.int i t) (.bytes b t')) ∈ news) (hi : i = g p) (hb : b = octs p q) :
    TupsIn news g (vs ++ [.ref a]) (ps ++ [(p, q)]) := by
  subst hi hb
  exact h.append ⟨⟨a, t, t', rfl, hm⟩, True.intro⟩
theorem TupsIn.get {news : Led} {g : Int → Int} : ∀ {vs : List Value} {ps : List (Int × Int)} {i : Nat} {v : Value}, TupsIn news g vs ps → vs[i]? = some v → ∃ p a t t', ps[i]? = some p ∧ v = .ref a ∧ (a, tup2 (.int (g p.1) t) (.bytes (octs p.1 p.2) t')) ∈ news
  | [], _, _, _, _, e => by simp at e
  | _ :: _, [], _, _, h, _ => h.elim
  | v :: vs, p :: ps, 0, _, ⟨⟨a, t, t', e', hm⟩, _⟩, e => by
    simp at e
    subst e
    exact ⟨p, a, t, t', rfl, e', hm⟩
  | v :: vs, p :: ps, i + 1, _, ⟨_, h⟩, e => by
    simp at e
    obtain ⟨p', a, t, t', h1, h2⟩ := h.get e
    exact ⟨p', a, t, t', by simpa using h1, h2⟩
/-- what 'missing' finds of [at, v) beside the parts -/
noncomputable def miss (v : Int) : List (Int × Int) → Int → List (Int × Int)
  | [], at' => if at' < v then [(at', v)] else []
  | (a, b) :: r, at' => if b ≤ at' then miss v r at' else if v ≤ a then (if at' < v then [(at', v)] else []) else if at' < a then (at', a) :: miss v r b else miss v r b
theorem miss_cont {v at' : Int} {p : Int × Int} {r : List (Int × Int)} (h : p.2 ≤ at') : miss v (p :: r) at' = miss v r at' := by
  obtain ⟨a, b⟩ := p; simp only [miss]; rw [if_pos h]
theorem miss_brk {v at' : Int} {p : Int × Int} {r : List (Int × Int)} (h : ¬ p.2 ≤ at') (k : v ≤ p.1) : miss v (p :: r) at' = miss v [] at' := by
  obtain ⟨a, b⟩ := p; simp only [miss]; rw [if_neg h, if_pos k]
theorem miss_gap {v at' : Int} {p : Int × Int} {r : List (Int × Int)} (h : ¬ p.2 ≤ at') (k : ¬ v ≤ p.1) (j : at' < p.1) : miss v (p :: r) at' = (at', p.1) :: miss v r p.2 := by
  obtain ⟨a, b⟩ := p; simp only [miss]; rw [if_neg h, if_neg k, if_pos j]
theorem miss_on {v at' : Int} {p : Int × Int} {r : List (Int × Int)} (h : ¬ p.2 ≤ at') (k : ¬ v ≤ p.1) (j : ¬ at' < p.1) : miss v (p :: r) at' = miss v r p.2 := by
  obtain ⟨a, b⟩ := p; simp only [miss]; rw [if_neg h, if_neg k, if_neg j]
theorem drop_cons {α : Type} {l : List α} {i : Nat} {p : α} (h : l[i]? = some p) : l.drop i = p :: l.drop (i + 1) := by
  obtain ⟨hi, rfl⟩ := List.getElem?_eq_some_iff.mp h
  exact List.drop_eq_getElem_cons hi
section
variable {w : World} {mean : ExcName → Option Value} {mg mb : Str → Option Value} {news : Led}
end
theorem say_06_1 : True := by
  k_with "exec For Tuple Attribute cons nil" => ((k_here; (rename Fr _ _ _ _ => lFZ'); (with_unfolding_all refine' For_turns lFZ' ?_); k_whole))
  trivial
section
variable {w : World} {mean : ExcName → Option Value} {mg mb : Str → Option Value} {news : Led}
inductive LPost (news : Led) (g : Int → Int) (X : List (Int × Int)) (r : Value) (n' : Led) : Prop
  | mk : ∀ F rl fn, r = .ref F → (F, listOf rl.toArray fn) ∈ n' → (∀ p ∈ news, p ∈ n') → (∀ p ∈ news, p.1 ≠ F) → TupsIn n' g rl X → LPost news g X r n'
inductive MissJ (news : Led) (n v u : Int) (I : List (Int × Int)) (vs1 vs2 vs3 vs4 : Value) (ps : List (Int × Int)) (m : Str → Option Value) (nx : Led) : Prop
  | mk : ∀ (R : Led) (F : Addr) (rl : List Value) (fn : Nat) (G : List (Int × Int)) (α ai e : Int) (ta te : Tok), nx = (F, listOf rl.toArray fn) :: R →
    (∀ p ∈ news, p ∈ R) →
    (∀ p ∈ R, p.1 ≠ F) →
    TupsIn R (fun p => p - n) rl G →
    rl.length + ps.length ≤ I.length →
    G ++ miss v ps α = miss v I u →
    u ≤ α →
    ai = α - n →
    e = v - n →
    (∀ p ∈ [(("at" : Str), Value.int ai ta), ("found", .ref F), ("end", .int e te), ("next", vs1), ("octets", vs2), ("begin", vs3), ("self", vs4)], m p.1 = some p.2) → MissJ news n v u I vs1 vs2 vs3 vs4 ps m nx
end
theorem say_06_2 : True := by
  k_with "mine in" => (first | exact all0 | (refine all2 (by first | k_mem | assumption) ?_; walk_at "mine in") | (intro p9Z hp9Z; k_ownIn))
  trivial
theorem say_06_9 : True := by
  k_with "mine size" => ((try rw [sizeLine_eq]); (try simp only [List.size_toArray]); (first | lia | omega))
  trivial
local macro_rules | `(tactic| size_fits) => `(tactic| walk_at "mine size")
section
variable {w : World} {mean : ExcName → Option Value} {mg mb : Str → Option Value} {news : Led}
theorem missing_spec {x dx l : Addr} {vs : List Value} {nn : Nat} {I : List (Int × Int)} {u v n ring bs : Int} {k1 k2 t tb to tn : Tok}
    (hx : (x, instObj 141 dx) ∈ news) (hdx : (dx, asmD w k1 k2 ring t l) ∈ news) (hl : (l, listOf vs.toArray nn) ∈ news) (hT : TupsIn news (sq ring bs) vs I) (hI : ∀ p ∈ I, 0 ≤ p.1 ∧ p.1 < p.2 ∧ p.2 ≤ 64) (hIl : I.length ≤ 64)
    (hr : 256 ≤ ring) (hn : 0 ≤ n ∧ n ≤ u ∧ u ≤ v ∧ v ≤ 64) :
    Spec w mean mg mb 96 12 [.ref x, .int (u - n) tb, .bytes (octs u v) to, .int (sq ring bs n) tn] news (LPost news (fun p => p - n) (miss v I u)) := by
  unfold Spec; k_fill; intro dp un gd cn cs a' ccd cl outer A₀ base h₀ L m s Q E B F X N T hk hdp hun hret
  refine wpAny_call ?_
  k_dflt (refine' code_defM [("next", .int (sq ring bs n) tn), ("octets", .bytes (octs u v) to), ("begin", .int (u - n) tb), ("self", .ref x)] ?k1 ?k2 ?k3 ?k4 ?k5 ?kA ?kF ?kK ?k6 ?k7 ?k8 ?k9 ?kB ?_ ?c2 ?c3 ?c4 ?c5; walk_at "mine enter")
  k_steps
  rename Fr _ _ _ _ => F1
  rename News _ _ _ _ => N1
  rename ∀ p ∈ news, p.1 < _ => hlt
  replace N1 := News.drop1 N1
  refine my_iter (fun i => MissJ news n v u I (.int (sq ring bs n) tn) (.bytes (octs u v) to) (.int (u - n) tb) (.ref x) (I.drop i)) (MissJ news n v u I (.int (sq ring bs n) tn) (.bytes (octs u v) to) (.int (u - n) tb) (.ref x) []) rfl (.tail _ hl) F1 N1 ?h0 ?turn ?done ?out
  case h0 =>
    refine ⟨news, _, [], 0, [], u, _, _, tb, _, rfl, fun _ h => h, ne_lt hlt, True.intro, by simp, rfl, Int.le_refl _, rfl, ?_, all2 rfl (all2 rfl (all2 rfl (all2 rfl (all2 rfl (all2 rfl (all2 rfl all0))))))⟩
    (first | lia | omega)
  case turn =>
    rintro i v9 m₁ nx h tk It o hv hoff hl9 ⟨R, F, rl, fn, G, α, ai, e, ta, te, rfl, hR, hF, hG, hlen, hE, hα, rfl, rfl, hm⟩ F2 N2 QZ9 hQZ9
    obtain ⟨p, a, t1, t2, hp, rfl, hmem⟩ := hT.get hv
    have F3 := Fr_chain _ F2 hm
    have hIp := hI p (List.mem_of_getElem? hp)
    rw [drop_cons hp] at hE hlen
    rw [List.length_cons] at hlen
    replace hx := hR _ hx
    replace hdx := hR _ hdx
    replace hmem := hR _ hmem
    have hFI : F ≠ It := hoff _ (.head _)
    clear F1 N1 F2 hm hlt
    with_reducible show wpAny _ _ _ _ _ _
    k_fold
    k_steps
    · show TurnEnd _ _ _ _ _ _ _ .cont _
      refine TurnEnd.cont (nx := (F, listOf rl.toArray fn) :: R) (by assumption) (by assumption) (by k_mem) (by walk_at "mine in") hoff ⟨hl9, R, F, rl, fn, G, α, _, _, _, _, rfl, hR, hF, hG, by (first | lia | omega), ?_, hα, rfl, rfl, all2 rfl (all2 rfl (all2 rfl (all2 rfl (all2 rfl (all2 rfl (all2 rfl all0))))))⟩
      rw [← hE, miss_cont (by (first | lia | omega))]
    · show TurnEnd _ _ _ _ _ _ _ .brk _
      refine TurnEnd.brk (nx := (F, listOf rl.toArray fn) :: R) (by assumption) (by assumption) (by walk_at "mine in") ⟨R, F, rl, fn, G, α, _, _, _, _, rfl, hR, hF, hG, by simp; (first | lia | omega), ?_, hα, rfl, rfl, all2 rfl (all2 rfl (all2 rfl (all2 rfl (all2 rfl (all2 rfl (all2 rfl all0))))))⟩
      rw [← hE, miss_brk (by (first | lia | omega)) (by (first | lia | omega))]
    · rename (_ : Array UInt8) = octs _ _ => hx9
      rename It < _ ∧ F < _ ∧ AllLt _ R => hl1
      obtain ⟨N9, h8, h7⟩ := grow hl1 (fun p hp => hoff p (.tail _ hp)) hFI hF (by assumption)
      show TurnEnd _ _ _ _ _ _ _ .next _
      refine TurnEnd.next (by assumption) N9 (.head _) (fun p hp => .tail _ hp) h8 ⟨.tail _ (.tail _ (hR _ hl)), _, F, _, _, G ++ [(α, p.1)], p.2, _, _, _, _, rfl, sub_cons hR, h7, (hG.mono fun p hp => .tail _ hp).snoc (.head _) rfl ?_, by rw [List.length_append, List.length_singleton]; (first | lia | omega), ?_, by (first | lia | omega), ?_, rfl, all2 rfl (all2 rfl (all2 rfl (all2 rfl (all2 rfl (all2 rfl (all2 rfl all0))))))⟩
      · rw [hx9]; congr 1 <;> (first | lia | omega)
      · rw [← hE, miss_gap (by (first | lia | omega)) (by (first | lia | omega)) (by (first | lia | omega)), List.append_assoc]; rfl
      · (first | lia | omega)
    · show TurnEnd _ _ _ _ _ _ _ .next _
      refine TurnEnd.next (nx := (F, listOf rl.toArray fn) :: R) (by assumption) (by assumption) (by k_mem) (by walk_at "mine in") hoff ⟨hl9, R, F, rl, fn, G, p.2, _, _, _, _, rfl, hR, hF, hG, by (first | lia | omega), ?_, by (first | lia | omega), ?_, rfl, all2 rfl (all2 rfl (all2 rfl (all2 rfl (all2 rfl (all2 rfl (all2 rfl all0))))))⟩
      · rw [← hE, miss_on (by (first | lia | omega)) (by (first | lia | omega)) (by (first | lia | omega))]
      · (first | lia | omega)
  case done =>
    rintro m₁ nx - ⟨R, F, rl, fn, G, α, ai, e, ta, te, rfl, hR, hF, hG, hlen, hE, hα, rfl, rfl, hm⟩
    have hz : I.drop vs.length = [] := List.drop_eq_nil_of_le (Nat.le_of_eq hT.length.symm)
    rw [hz] at hE hlen
    exact ⟨R, F, rl, fn, G, α, _, _, _, _, rfl, hR, hF, hG, hlen, hE, hα, rfl, rfl, hm⟩
  case out =>
    rintro m₁ nx h tk ⟨R, F, rl, fn, G, α, ai, e, ta, te, rfl, hR, hF, hG, hlen, hE, hα, rfl, rfl, hm⟩ F2 N2
    have F3 := Fr_chain _ F2 hm
    clear F1 N1 F2 hm hlt
    with_reducible show wpAny _ _ _ _ _ _
    (try k_fold)
    k_steps
    · rename (_ : Array UInt8) = octs _ _ => hx9
      rename F < _ ∧ AllLt _ R => hl1
      obtain ⟨N9, h7⟩ := grow0 hl1 hF (by assumption)
      refine hret _ _ _ _ (by assumption) N9 ⟨F, _, _, rfl, .head _, sub_cons (sub_cons hR), fun p hp => hF p (hR p hp), ?_⟩
      have hz : miss v [] α = [(α, v)] := if_pos (by (first | lia | omega))
      rw [← hE, hz]
      refine (hG.mono fun p hp => .tail _ (.tail _ hp)).snoc (.tail _ (.head _)) rfl ?_
      rw [hx9]; congr 1; (first | lia | omega)
    · refine hret _ _ _ _ (by assumption) (by assumption) ⟨F, _, _, rfl, .head _, sub_cons hR, fun p hp => hF p (hR p hp), ?_⟩
      have hz : miss v [] α = [] := if_neg (by (first | lia | omega))
      rw [hz, List.append_nil] at hE
      rw [← hE]
      exact hG.mono fun p hp => .tail _ hp
end

theorem anew_07 : True := by w_top off; trivial
section
variable {prog : Program} {w : World} {A : Around} {E : Value → Shared → Prop} {s : Shared} {h₀ : Heap} {L a b : Addr} {m : Str → Option Value} {news : Led} {rl : List Value} {n k : Nat} {Q : Value → Shared → Prop}
theorem isList_of (N : News h₀ L s.heap news) (ha : (a, listOf rl.toArray n) ∈ news) : s.heap.IsList a rl.toArray := ⟨_, (N _ ha).1, rfl, n, rfl⟩
theorem ne_nilL (N : News h₀ L s.heap news) (ha : (a, listOf rl.toArray n) ∈ news) (hb : (b, listOf ([] : List Value).toArray k) ∈ news) (hu : A.units < cLine) (h : Q (.bool (decide (rl ≠ []))) s) :
    wpAny (model prog w) A (compareOp .NotEq (.ref a) (.ref b)) Q E s := by
  show wpAny (model prog w) A (richCompare .NotEq (.ref a) (.ref b)) Q E s
  cases rl with
  | nil => exact SeqAt.RcNeAt.lists (isList_of N ha) (isList_of N hb) rfl hu (e := fun _ => true) (fun j h1 _ => absurd h1 (Nat.not_lt_zero _)) prog w E Q h
  | cons v r => exact SeqAt.RcNeAt.lists_lengths (isList_of N ha) (isList_of N hb) (by simp) hu prog w E Q h
theorem eq_nilL (N : News h₀ L s.heap news) (ha : (a, listOf rl.toArray n) ∈ news) (hb : (b, listOf ([] : List Value).toArray k) ∈ news) (hu : A.units < cLine) (h : Q (.bool (decide (rl = []))) s) :
    wpAny (model prog w) A (compareOp .Eq (.ref a) (.ref b)) Q E s := by
  show wpAny (model prog w) A (richCompare .Eq (.ref a) (.ref b)) Q E s
  cases rl with
  | nil => exact SeqAt.RcAt.lists (isList_of N ha) (isList_of N hb) rfl hu (e := fun _ => true) (fun j h1 _ => absurd h1 (Nat.not_lt_zero _)) prog w E Q h
  | cons v r => exact SeqAt.RcAt.lists_lengths (isList_of N ha) (isList_of N hb) (by simp) hu prog w E Q h
theorem ne_nil_nil (N : News h₀ L s.heap news) (ha : (a, listOf ([] : List Value).toArray n) ∈ news) (hb : (b, listOf ([] : List Value).toArray k) ∈ news) (hu : A.units < cLine) (h : Q (.bool false) s) :
    wpAny (model prog w) A (compareOp .NotEq (.ref a) (.ref b)) Q E s := ne_nilL N ha hb hu h
theorem ne_nil_cons {v : Value} (N : News h₀ L s.heap news) (ha : (a, listOf (v :: rl).toArray n) ∈ news) (hb : (b, listOf ([] : List Value).toArray k) ∈ news) (hu : A.units < cLine) (h : Q (.bool true) s) :
    wpAny (model prog w) A (compareOp .NotEq (.ref a) (.ref b)) Q E s := ne_nilL N ha hb hu (by simpa using h)
theorem eq_nil_nil (N : News h₀ L s.heap news) (ha : (a, listOf ([] : List Value).toArray n) ∈ news) (hb : (b, listOf ([] : List Value).toArray k) ∈ news) (hu : A.units < cLine) (h : Q (.bool true) s) :
    wpAny (model prog w) A (compareOp .Eq (.ref a) (.ref b)) Q E s := eq_nilL N ha hb hu h
theorem eq_nil_cons {v : Value} (N : News h₀ L s.heap news) (ha : (a, listOf (v :: rl).toArray n) ∈ news) (hb : (b, listOf ([] : List Value).toArray k) ∈ news) (hu : A.units < cLine) (h : Q (.bool false) s) :
    wpAny (model prog w) A (compareOp .Eq (.ref a) (.ref b)) Q E s := eq_nilL N ha hb hu (by simpa using h)
theorem pop0 {news' : Led} {v : Value} {u : Tok} {Q : Value → Shared → Prop} (F : Fr h₀ L s.heap m) (N : News h₀ L s.heap news) (U : Upd a (listOf (v :: rl).toArray n) (listOf rl.toArray (n + 1)) news news') (hz : rl.length < sizeLine) (h : ∀ h', Fr h₀ L h' m → News h₀ L h' news' → Q v { s with heap := h' }) :
    wpAny (model prog w) A (call (.builtin "list.pop") [.ref a, .int 0 u]) Q E s :=
  kl_popAt (p := []) (q := rl) (k := 0) F N (by decide) (by simp [seqIndex?]) (by simp [kl_cut]) U (by simp only [List.length_cons]; exact hz) h
end
theorem say_07_1 : True := by
  k_with "compareOp NotEq ref ref" => ((k_here; (with_reducible show wpAny _ _ (compareOp CmpOp.NotEq (Value.ref _) (Value.ref _)) _ _ _); k_dflt (first
  | (refine' ne_nil_nil ?k1 ?k2 ?k3 ?k4 ?_; (case k1 => k_asm); (case k2 => k_mem); (case k3 => k_mem); (case k4 => walk_at "mine units"); k_whole)
  | (refine' ne_nil_cons ?k1 ?k2 ?k3 ?k4 ?_; (case k1 => k_asm); (case k2 => k_mem); (case k3 => k_mem); (case k4 => walk_at "mine units"); k_whole)
  | (refine' ne_nilL ?k1 ?k2 ?k3 ?k4 ?_; (case k1 => k_asm); (case k2 => k_mem); (case k3 => k_mem); (case k4 => walk_at "mine units"); k_whole))))
  trivial
theorem say_07_2 : True := by
  k_with "compareOp Eq ref ref" => ((k_here; (with_reducible show wpAny _ _ (compareOp CmpOp.Eq (Value.ref _) (Value.ref _)) _ _ _); k_dflt (first
  | (refine' eq_nil_nil ?k1 ?k2 ?k3 ?k4 ?_; (case k1 => k_asm); (case k2 => k_mem); (case k3 => k_mem); (case k4 => walk_at "mine units"); k_whole)
  | (refine' eq_nil_cons ?k1 ?k2 ?k3 ?k4 ?_; (case k1 => k_asm); (case k2 => k_mem); (case k3 => k_mem); (case k4 => walk_at "mine units"); k_whole)
  | (refine' eq_nilL ?k1 ?k2 ?k3 ?k4 ?_; (case k1 => k_asm); (case k2 => k_mem); (case k3 => k_mem); (case k4 => walk_at "mine units"); k_whole))))
  trivial
local macro_rules | `(tactic| is_list) => `(tactic| exact News.isList (by k_asm) (by k_mem))
theorem say_07_3 : True := by
  k_with "call builtin:list.pop" => ((k_here; (with_reducible show wpAny _ _ (call (Value.builtin _) [Value.ref _, Value.int _ _]) _ _ _); k_dflt (refine' pop0 ?F ?N ?U ?z ?_; (case F => k_asm); (case N => k_asm); (case U => k_upd); (case z => size_fits); k_whole); intro hZ' FZ' NZ'; (try k_sweep)))
  trivial
/-- what 'merged' makes of the parts and of the fresh pieces -/
noncomputable def mrg : List (Int × Int) → List (Int × Int) → List (Int × Int)
  | [], g => g
  | p :: r, g => g.takeWhile (fun q => decide (q.1 < p.1)) ++ p :: mrg r (g.dropWhile fun q => decide (q.1 < p.1))
theorem mrg_nil_l (P G : List (Int × Int)) : P ++ mrg [] G = P ++ G := rfl
section
variable {w : World} {mean : ExcName → Option Value} {mg mb : Str → Option Value} {news : Led}
inductive MrgJ (news : Led) (n : Int) (I G : List (Int × Int)) (vs1 vs2 : Value) (ps : List (Int × Int)) (m : Str → Option Value) (nx : Led) : Prop
  | mk : ∀ (R : Led) (F S : Addr) (fl rs : List Value) (fn rn : Nat) (P G' : List (Int × Int)), nx = (F, listOf fl.toArray fn) :: (S, listOf rs.toArray rn) :: R →
    (∀ p ∈ news, p ∈ R) →
    (∀ p ∈ R, p.1 ≠ F) →
    (∀ p ∈ R, p.1 ≠ S) →
    F ≠ S →
    TupsIn R (fun p => p - n) fl P →
    TupsIn R (fun p => p - n) rs G' →
    fl.length + rs.length + ps.length ≤ 128 →
    P ++ mrg ps G' = mrg I G →
    (∀ p ∈ [(("found" : Str), Value.ref F), ("rest", .ref S), ("next", vs1), ("self", vs2)], m p.1 = some p.2) → MrgJ news n I G vs1 vs2 ps m nx
inductive MrgW (R : Led) (F S It : Addr) (o : Obj) (n a : Int) (P0 G0 : List (Int × Int)) (c : Nat) (vs1 vs2 vs4 : Value) (k : Nat) (m : Str → Option Value) (nx : Led) : Prop
  | mk : ∀ (fl rs : List Value) (fn rn : Nat) (P G : List (Int × Int)) (tf : Tok), nx = (It, o) :: (F, listOf fl.toArray fn) :: (S, listOf rs.toArray rn) :: R →
    TupsIn R (fun p => p - n) fl P →
    TupsIn R (fun p => p - n) rs G →
    fl.length + rs.length = c →
    rs.length = k →
    P ++ G.takeWhile (fun q => decide (q.1 < a)) = P0 ++ G0.takeWhile (fun q => decide (q.1 < a)) →
    G.dropWhile (fun q => decide (q.1 < a)) = G0.dropWhile (fun q => decide (q.1 < a)) →
    (∀ p ∈ [(("first" : Str), Value.int (a - n) tf), ("kept", vs4), ("found", .ref F), ("rest", .ref S), ("next", vs1), ("self", vs2)], m p.1 = some p.2) → MrgW R F S It o n a P0 G0 c vs1 vs2 vs4 k m nx
inductive MrgX (R : Led) (F S It : Addr) (o : Obj) (n a : Int) (P0 G0 : List (Int × Int)) (c : Nat) (vs1 vs2 vs4 : Value) (m : Str → Option Value) (nx : Led) : Prop
  | mk : ∀ (fl rs : List Value) (fn rn : Nat) (tf : Tok), nx = (It, o) :: (F, listOf fl.toArray fn) :: (S, listOf rs.toArray rn) :: R →
    TupsIn R (fun p => p - n) fl (P0 ++ G0.takeWhile (fun q => decide (q.1 < a))) →
    TupsIn R (fun p => p - n) rs (G0.dropWhile (fun q => decide (q.1 < a))) →
    fl.length + rs.length = c →
    (∀ p ∈ [(("first" : Str), Value.int (a - n) tf), ("kept", vs4), ("found", .ref F), ("rest", .ref S), ("next", vs1), ("self", vs2)], m p.1 = some p.2) → MrgX R F S It o n a P0 G0 c vs1 vs2 vs4 m nx
theorem merged_spec {x dx l Fr' : Addr} {vs rl : List Value} {nn fn : Nat} {I G : List (Int × Int)} {n ring bs : Int} {k1 k2 t tn : Tok}
    (hx : (x, instObj 141 dx) ∈ news) (hdx : (dx, asmD w k1 k2 ring t l) ∈ news) (hl : (l, listOf vs.toArray nn) ∈ news) (hT : TupsIn news (sq ring bs) vs I) (hI : ∀ p ∈ I, 0 ≤ p.1 ∧ p.1 < p.2 ∧ p.2 ≤ 64) (hIl : I.length ≤ 64)
    (hf : (Fr', listOf rl.toArray fn) ∈ news) (hG : TupsIn news (fun p => p - n) rl G) (hGl : rl.length ≤ 64) (hr : 256 ≤ ring) (hn : 0 ≤ n ∧ n ≤ 64) :
    Spec w mean mg mb 103 12 [.ref x, .ref Fr', .int (sq ring bs n) tn] news (LPost news (fun p => p - n) (mrg I G)) := by
  unfold Spec; k_fill; intro dp un gd cn cs a' ccd cl outer A₀ base h₀ L m s Q E B F X N T hk hdp hun hret
  refine wpAny_call ?_
  k_dflt (refine' code_defM [("next", .int (sq ring bs n) tn), ("fresh", .ref Fr'), ("self", .ref x)] ?k1 ?k2 ?k3 ?k4 ?k5 ?kA ?kF ?kK ?k6 ?k7 ?k8 ?k9 ?kB ?_ ?c2 ?c3 ?c4 ?c5; walk_at "mine enter")
  k_steps
  rename Fr _ _ _ _ => F1
  rename News _ _ _ _ => N1
  rename ∀ p ∈ news, p.1 < _ => hlt
  rename _ < _ ∧ AllLt _ news => hlt2
  replace N1 := News.swap12 N1
  refine my_iter (fun i => MrgJ news n I G (.int (sq ring bs n) tn) (.ref x) (I.drop i)) (MrgJ news n I G (.int (sq ring bs n) tn) (.ref x) []) rfl (.tail _ (.tail _ hl)) F1 N1 ?h0 ?turn ?done ?out
  case h0 =>
    exact ⟨news, _, _, [], rl, 0, _, [], G, rfl, fun _ h => h, ne_lt hlt, allLt_ne hlt2.2, Nat.ne_of_lt hlt2.1, True.intro, hG, by simp; (first | lia | omega), rfl, all2 rfl (all2 rfl (all2 rfl (all2 rfl all0)))⟩
  case turn =>
    rintro i v9 m₁ nx h tk It o hv hoff hl9 ⟨R, F, S, fl, rs, fn, rn, P, G', rfl, hR, hF, hS, hFS, hP, hG', hlen, hE, hm⟩ F2 N2 QZ9 hQZ9
    obtain ⟨p, a, t1, t2, hp, rfl, hmem⟩ := hT.get hv
    have F3 := Fr_chain _ F2 hm
    have hIp := hI p (List.mem_of_getElem? hp)
    rw [drop_cons hp] at hE hlen
    rw [List.length_cons] at hlen
    replace hx := hR _ hx
    replace hdx := hR _ hdx
    replace hmem := hR _ hmem
    have hFI : F ≠ It := hoff _ (.head _)
    have hSI : S ≠ It := hoff _ (.tail _ (.head _))
    clear F1 N1 F2 hm hlt hlt2
    with_reducible show wpAny _ _ _ _ _ _
    k_fold
    k_steps
    show wpAny _ _ _ _ _ _
    rename Fr _ _ _ _ => F4
    rename News _ _ _ _ => N4
    refine my_while (n₀ := rs.length) (MrgW R F S It o n p.1 P G' (fl.length + rs.length) (.int (sq ring bs n) tn) (.ref x) (.bytes (octs p.1 p.2) t2)) (MrgX R F S It o n p.1 P G' (fl.length + rs.length) (.int (sq ring bs n) tn) (.ref x) (.bytes (octs p.1 p.2) t2)) F4 N4 ?w0 ?wturn ?wout
    case w0 => exact ⟨fl, rs, fn, rn, P, G', _, rfl, hP, hG', rfl, rfl, rfl, rfl, all2 rfl (all2 rfl (all2 rfl (all2 rfl (all2 rfl (all2 rfl all0)))))⟩
    case wturn =>
      rintro k m₂ nx2 h2 tk2 ⟨fl', rs', fn', rn', P', G2, tf, rfl, hP', hG2, hc, hk', hE1, hE2, hm2⟩ F5 N5 QW9 hQW9
      have F6 := Fr_chain _ F5 hm2
      clear F4 N4 F5 hm2
      cases rs' with
      | nil =>
        cases G2 with
        | cons q G3 => exact hG2.elim
        | nil =>
          with_reducible show wpAny _ _ _ _ _ _
          (try k_fold)
          k_steps
          refine WhileOut.intro (by assumption) (by assumption) (by walk_at "mine in") ⟨fl', [], fn', rn', _, rfl, ?_, ?_, hc, all2 rfl (all2 rfl (all2 rfl (all2 rfl (all2 rfl (all2 rfl all0)))))⟩
          · rw [← hE1]; simpa using hP'
          · rw [← hE2]; exact hG2
      | cons v r =>
        cases G2 with
        | nil => exact hG2.elim
        | cons q G3 =>
          obtain ⟨⟨b, t3, t4, rfl, hb⟩, hG3⟩ := hG2
          dsimp only at hb
          with_reducible show wpAny _ _ _ _ _ _
          (try k_fold)
          k_steps
          · rename News _ _ _ _ => N7
            rw [push_listOf] at N7
            have hlt3 : decide (q.1 < p.1) = true := decide_eq_true (by (first | lia | omega))
            show WhileEnd _ _ _ _ _ _ _ .next _
            refine WhileEnd.next (by assumption) N7 (fun p hp => .tail _ hp) (by rw [← hk']; exact Nat.lt_succ_self r.length) ⟨_, _, _, _, P' ++ [q], G3, _, rfl, hP'.append ⟨⟨b, t3, t4, rfl, hb⟩, True.intro⟩, hG3, ?_, rfl, ?_, ?_, all2 rfl (all2 rfl (all2 rfl (all2 rfl (all2 rfl (all2 rfl all0)))))⟩
            · rw [← hc, List.length_append, List.length_cons, List.length_cons, List.length_nil]; (first | lia | omega)
            · rw [← hE1, List.takeWhile_cons, if_pos hlt3, List.append_assoc]; rfl
            · rw [← hE2, List.dropWhile_cons, if_pos hlt3]
          · have hlt3 : ¬ decide (q.1 < p.1) = true := fun hh => by have := of_decide_eq_true hh; (first | lia | omega)
            refine WhileOut.intro (by assumption) (by assumption) (by walk_at "mine in") ⟨fl', _, fn', rn', _, rfl, ?_, ?_, hc, all2 rfl (all2 rfl (all2 rfl (all2 rfl (all2 rfl (all2 rfl all0)))))⟩
            · rw [← hE1, List.takeWhile_cons, if_neg hlt3, List.append_nil]; exact hP'
            · rw [← hE2, List.dropWhile_cons, if_neg hlt3]; exact ⟨⟨b, t3, t4, rfl, hb⟩, hG3⟩
    case wout =>
      rintro m₂ nx2 h2 tk2 ⟨fl', rs', fn', rn', tf, rfl, hP', hG2, hc, hm2⟩ F5 N5
      have F6 := Fr_chain _ F5 hm2
      clear F4 N4 F5 hm2
      with_reducible show wpAny _ _ _ _ _ _
      (try k_fold)
      k_steps
      rename It < _ ∧ F < _ ∧ S < _ ∧ AllLt _ R => hl1
      obtain ⟨N9, h8, h7, h6⟩ := grow2 hl1 (fun p hp => hoff p (.tail _ (.tail _ hp))) hFI hSI hF hS (by assumption)
      show TurnEnd _ _ _ _ _ _ _ .next _
      refine TurnEnd.next (by assumption) N9 (.head _) (fun p hp => .tail _ hp) h8 ⟨.tail _ (.tail _ (.tail _ (hR _ hl))), _, F, S, _, _, _, _, _ ++ [p], _, rfl, sub_cons hR, h7, h6, hFS, (hP'.mono fun p hp => .tail _ hp).snoc (.head _) rfl rfl, hG2.mono fun p hp => .tail _ hp, ?_, ?_, all2 rfl (all2 rfl (all2 rfl (all2 rfl all0)))⟩
      · rw [List.length_append, List.length_singleton]; (first | lia | omega)
      · rw [← hE]; simp only [mrg, List.append_assoc, List.cons_append, List.nil_append]
  case done =>
    rintro m₁ nx - ⟨R, F, S, fl, rs, fn, rn, P, G', rfl, hR, hF, hS, hFS, hP, hG', hlen, hE, hm⟩
    have hz : I.drop vs.length = [] := List.drop_eq_nil_of_le (Nat.le_of_eq hT.length.symm)
    rw [hz] at hE hlen
    exact ⟨R, F, S, fl, rs, fn, rn, P, G', rfl, hR, hF, hS, hFS, hP, hG', hlen, hE, hm⟩
  case out =>
    rintro m₁ nx h tk ⟨R, F, S, fl, rs, fn, rn, P, G', rfl, hR, hF, hS, hFS, hP, hG', hlen, hE, hm⟩ F2 N2
    have F3 := Fr_chain _ F2 hm
    have hlt9 : ∀ p ∈ news, p.1 < h.objs.size := fun p hp => Heap.lt_size (N2 _ (.tail _ (.tail _ (hR _ hp)))).1
    clear F1 N1 F2 hm hlt hlt2
    with_reducible show wpAny _ _ _ _ _ _
    (try k_fold)
    k_steps
    refine hret _ _ _ _ (by assumption) (by assumption) ⟨_, fl ++ rs, _, rfl, .head _, sub_cons (sub_cons (sub_cons hR)), fun p hp => Nat.ne_of_lt (hlt9 p hp), ?_⟩
    rw [← hE]
    exact (hP.append hG').mono fun p hp => .tail _ (.tail _ (.tail _ hp))
end

theorem anew_08 : True := by w_top off; trivial
theorem TupsIn.unsnoc {news : Led} {g : Int → Int} : ∀ {A : List (Int × Int)} {vs : List Value} {q : Int × Int}, TupsIn news g vs (A ++ [q]) → ∃ v0 a t t', vs = v0 ++ [Value.ref a] ∧ TupsIn news g v0 A ∧ (a, tup2 (.int (g q.1) t) (.bytes (octs q.1 q.2) t')) ∈ news
  | [], [], _, h => h.elim
  | [], [_], _, ⟨⟨a, t, t', e, hm⟩, _⟩ => ⟨[], a, t, t', by rw [e]; rfl, True.intro, hm⟩
  | [], _ :: _ :: _, _, ⟨_, h⟩ => h.elim
  | _ :: _, [], _, h => h.elim
  | _ :: _, v :: vs, _, ⟨h1, h⟩ => by
    obtain ⟨v0, a, t, t', rfl, h2, hm⟩ := TupsIn.unsnoc h
    exact ⟨v :: v0, a, t, t', rfl, ⟨h1, h2⟩, hm⟩
theorem setL_last (v0 v : Value) : ∀ l : List Value, ki_setL (l ++ [v0]) l.length v = some (l ++ [v])
  | [] => rfl
  | x :: r => by
    show (match ki_setL (r ++ [v0]) r.length v with | some q => some (x :: q) | none => none) = _
    rw [setL_last v0 v r]; rfl
section
variable {prog : Program} {w : World} {A : Around} {E : Value → Shared → Prop} {s : Shared} {h₀ : Heap} {L D : Addr} {m : Str → Option Value} {news news' : Led} {l : List Value} {v v0 : Value} {n : Nat} {u : Tok} {value slice : PySem.Expr}
theorem last_item {Q : Value → Shared → Prop} (N : News h₀ L s.heap news) (hm : (D, listOf (l ++ [v]).toArray n) ∈ news) (hz : l.length ≤ 1000000) (h : Q v s)
    (hs : subscripted slice false (.ref D) (.int (-1) u) = operate [.ref D, .int (-1) u] (getItem (.ref D) (.int (-1) u)) := by with_unfolding_all rfl) (hg : ∀ r, letTemporaryGo value (.ref D) r = pure () := by intro _; with_unfolding_all rfl) :
    wpAny (model prog w) A (subscriptTail value slice (.ref D) (.int (-1) u)) Q E s :=
  kim_back N hm rfl rfl (by decide) (by rw [List.length_append]; simp; (first | lia | omega)) (by decide) (by
    have : ((-1 : Int) + ((l ++ [v]).length : Int)).toNat = l.length := by rw [List.length_append, List.length_singleton]; (first | lia | omega)
    rw [this]; simp) h hs hg
theorem set_last {Q : Unit → Shared → Prop} (F : Fr h₀ L s.heap m) (N : News h₀ L s.heap news) (U : Upd D (listOf (l ++ [v0]).toArray n) (listOf (l ++ [v]).toArray n) news news') (h : ∀ h', Fr h₀ L h' m → News h₀ L h' news' → Q () { s with heap := h' }) :
    wpAny (model prog w) A (setItem (.ref D) (.int (-1) u) v) Q E s :=
  ki_setNeg (j := l.length) F N (by decide) (by decide) (by simp [seqIndex?]; (first | lia | omega)) (setL_last v0 v l) U h
end
theorem say_08_1 : True := by
  k_with "subscriptTail" => ((k_here; (with_reducible show wpAny _ _ (subscriptTail _ _ (Value.ref _) (Value.int (-1) _)) _ _ _); k_dflt (refine' last_item ?N ?m ?z ?_; (case N => k_asm); (case m => k_mem); (case z => (first | lia | omega)); k_whole)))
  trivial
theorem say_08_2 : True := by
  k_with "setItem ref int" => ((k_here; (with_reducible show wpAny _ _ (setItem (Value.ref _) (Value.int (-1) _) _) _ _ _); k_dflt (refine' set_last ?F ?N ?U ?_; (case F => k_asm); (case N => k_asm); (case U => k_upd); k_whole); intro hZ' FZ' NZ'; (try dsimp only at NZ'); (try k_sweep)))
  trivial
theorem say_08_3 : True := by
  k_with "exec For Tuple Name cons nil" => ((k_here; (rename Fr _ _ _ _ => lFZ'); (with_unfolding_all refine' For_turns lFZ' ?_); k_whole))
  trivial
/-- adjacent pieces made one -/
noncomputable def jn : List (Int × Int) → List (Int × Int)
  | [] => []
  | [p] => [p]
  | p :: q :: r => if p.2 = q.1 then jn ((p.1, q.2) :: r) else p :: jn (q :: r)
termination_by l => l.length
theorem jn_eq {p q : Int × Int} {r : List (Int × Int)} (h : p.2 = q.1) : jn (p :: q :: r) = jn ((p.1, q.2) :: r) := by rw [jn, if_pos h]
theorem jn_ne {p q : Int × Int} {r : List (Int × Int)} (h : p.2 ≠ q.1) : jn (p :: q :: r) = p :: jn (q :: r) := by rw [jn, if_neg h]
theorem TupsIn.nil_left {news : Led} {g : Int → Int} {vs : List Value} (h : TupsIn news g vs []) : vs = [] := by
  cases vs with
  | nil => rfl
  | cons v r => exact h.elim
section
variable {w : World} {mean : ExcName → Option Value} {mg mb : Str → Option Value} {news : Led}
inductive JnJ (news : Led) (n ring bs : Int) (P : List (Int × Int)) (vs1 vs2 : Value) (ps : List (Int × Int)) (m : Str → Option Value) (nx : Led) : Prop
  | mk : ∀ (R : Led) (F : Addr) (fl : List Value) (fn : Nat) (B : List (Int × Int)) (ve : Value), nx = (F, listOf fl.toArray fn) :: R →
    (∀ p ∈ news, p ∈ R) →
    (∀ p ∈ R, p.1 ≠ F) →
    TupsIn R (sq ring bs) fl B →
    fl.length + ps.length ≤ P.length →
    ((B = [] ∧ jn ps = jn P ∧ ve = .none) ∨ (∃ A q te, B = A ++ [q] ∧ A ++ jn (q :: ps) = jn P ∧ 0 ≤ q.1 ∧ q.1 ≤ q.2 ∧ q.2 ≤ 64 ∧ ve = .int (q.2 - n) te)) →
    (∀ p ∈ [(("end" : Str), ve), ("found", .ref F), ("next", vs1), ("self", vs2)], m p.1 = some p.2) → JnJ news n ring bs P vs1 vs2 ps m nx
theorem joined_spec {x dx l D : Addr} {pl : List Value} {dn : Nat} {P : List (Int × Int)} {n ring bs : Int} {k1 k2 t tn : Tok}
    (hx : (x, instObj 141 dx) ∈ news) (hdx : (dx, asmD w k1 k2 ring t l) ∈ news) (hD : (D, listOf pl.toArray dn) ∈ news) (hP : TupsIn news (fun p => p - n) pl P) (hb : ∀ p ∈ P, 0 ≤ p.1 ∧ p.1 < p.2 ∧ p.2 ≤ 64) (hPl : pl.length ≤ 200)
    (hr : 256 ≤ ring) (hn : 0 ≤ n ∧ n ≤ 64) :
    Spec w mean mg mb 110 12 [.ref x, .ref D, .int (sq ring bs n) tn] news (LPost news (sq ring bs) (jn P)) := by
  unfold Spec; k_fill; intro dp un gd cn cs a' ccd cl outer A₀ base h₀ L m s Q E B F X N T hk hdp hun hret
  refine wpAny_call ?_
  k_dflt (refine' code_defM [("next", .int (sq ring bs n) tn), ("pieces", .ref D), ("self", .ref x)] ?k1 ?k2 ?k3 ?k4 ?k5 ?kA ?kF ?kK ?k6 ?k7 ?k8 ?k9 ?kB ?_ ?c2 ?c3 ?c4 ?c5; walk_at "mine enter")
  k_steps
  rename Fr _ _ _ _ => F1
  rename News _ _ _ _ => N1
  rename ∀ p ∈ news, p.1 < _ => hlt
  replace N1 := News.drop1 N1
  refine my_iter (fun i => JnJ news n ring bs P (.int (sq ring bs n) tn) (.ref x) (P.drop i)) (JnJ news n ring bs P (.int (sq ring bs n) tn) (.ref x) []) rfl (.tail _ hD) F1 N1 ?h0 ?turn ?done ?out
  case h0 =>
    exact ⟨news, _, [], 0, [], .none, rfl, fun _ h => h, ne_lt hlt, True.intro, by simp, .inl ⟨rfl, rfl, rfl⟩, all2 rfl (all2 rfl (all2 rfl (all2 rfl all0)))⟩
  case turn =>
    rintro i v9 m₁ nx h tk It o hv hoff hl9 ⟨R, F, fl, fn, B', ve, rfl, hR, hF, hB', hlen, hE, hm⟩ F2 N2 QZ9 hQZ9
    obtain ⟨p, a, t1, t2, hp, rfl, hmem⟩ := hP.get hv
    have hIp := hb p (List.mem_of_getElem? hp)
    rw [drop_cons hp] at hE hlen
    rw [List.length_cons] at hlen
    replace hx := hR _ hx
    replace hdx := hR _ hdx
    replace hmem : (a, tup2 (.int (p.1 - n) t1) (.bytes (octs p.1 p.2) t2)) ∈ R := hR _ hmem
    have hFI : F ≠ It := hoff _ (.head _)
    have hPl' : P.length ≤ 200 := by rw [← hP.length]; exact hPl
    rcases hE with ⟨rfl, hE, rfl⟩ | ⟨A9, q, te, rfl, hE, hq0, hq1, hq2, rfl⟩
    · have F3 := Fr_chain _ F2 hm
      clear F1 N1 F2 hm hlt
      with_reducible show wpAny _ _ _ _ _ _
      k_fold
      k_steps
      obtain rfl := hB'.nil_left
      rename It < _ ∧ F < _ ∧ AllLt _ R => hl1
      obtain ⟨N9, h8, h7⟩ := grow hl1 (fun p hp => hoff p (.tail _ hp)) hFI hF (by assumption)
      show TurnEnd _ _ _ _ _ _ _ .next _
      refine TurnEnd.next (by assumption) N9 (.head _) (fun p hp => .tail _ hp) h8 ⟨.tail _ (.tail _ (hR _ hD)), _, F, _, _, [] ++ [p], .int (p.1 - n + (p.2 - p.1)) _, rfl, sub_cons hR, h7, (hB'.mono fun p hp => .tail _ hp).snoc (.head _) ?_ rfl, ?_, .inr ⟨[], p, _, rfl, hE, hIp.1, Int.le_of_lt hIp.2.1, hIp.2.2, int_eq (by (first | lia | omega))⟩, all2 rfl (all2 rfl (all2 rfl (all2 rfl all0)))⟩
      · rw [show n + (p.1 - n) = p.1 by (first | lia | omega)]
      · rw [List.length_append, List.length_singleton]; (first | lia | omega)
    · have F3 := Fr_chain _ F2 hm
      obtain ⟨v0, b, t3, t4, rfl, hv0, hb4⟩ := hB'.unsnoc
      rw [List.length_append, List.length_singleton] at hlen
      clear F1 N1 F2 hm hlt
      with_reducible show wpAny _ _ _ _ _ _
      k_fold
      k_steps
      · rename It < _ ∧ F < _ ∧ AllLt _ R => hl1
        rename (_ : Array UInt8) = octs _ _ => hx9
        obtain ⟨N9, h8, h7⟩ := growG hl1 (fun p hp => hoff p (.tail _ hp)) hFI hF (by assumption)
        show TurnEnd _ _ _ _ _ _ _ .next _
        refine TurnEnd.next (by assumption) N9 (.head _) (fun p hp => .tail _ hp) h8 ⟨.tail _ (.tail _ (hR _ hD)), _, F, _, _, A9 ++ [(q.1, p.2)], .int (p.1 - n + (p.2 - p.1)) _, rfl, sub_cons hR, h7, (hv0.mono fun p hp => .tail _ hp).snoc (.head _) rfl hx9, ?_, .inr ⟨A9, (q.1, p.2), _, rfl, ?_, hq0, ?_, hIp.2.2, int_eq (by show p.1 - n + (p.2 - p.1) = p.2 - n; (first | lia | omega))⟩, all2 rfl (all2 rfl (all2 rfl (all2 rfl all0)))⟩
        · rw [List.length_append, List.length_singleton]; (first | lia | omega)
        · rw [← hE, jn_eq (by (first | lia | omega))]
        · dsimp only; (first | lia | omega)
      · rename It < _ ∧ F < _ ∧ AllLt _ R => hl1
        obtain ⟨N9, h8, h7⟩ := grow hl1 (fun p hp => hoff p (.tail _ hp)) hFI hF (by assumption)
        show TurnEnd _ _ _ _ _ _ _ .next _
        refine TurnEnd.next (by assumption) N9 (.head _) (fun p hp => .tail _ hp) h8 ⟨.tail _ (.tail _ (hR _ hD)), _, F, _, _, (A9 ++ [q]) ++ [p], .int (p.1 - n + (p.2 - p.1)) _, rfl, sub_cons hR, h7, (hB'.mono fun p hp => .tail _ hp).snoc (.head _) ?_ rfl, ?_, .inr ⟨A9 ++ [q], p, _, rfl, ?_, hIp.1, Int.le_of_lt hIp.2.1, hIp.2.2, int_eq (by (first | lia | omega))⟩, all2 rfl (all2 rfl (all2 rfl (all2 rfl all0)))⟩
        · rw [show n + (p.1 - n) = p.1 by (first | lia | omega)]
        · rw [List.length_append, List.length_append, List.length_singleton, List.length_singleton]; (first | lia | omega)
        · rw [← hE, jn_ne (by (first | lia | omega)), List.append_assoc]; rfl
  case done =>
    rintro m₁ nx - ⟨R, F, fl, fn, B', ve, rfl, hR, hF, hB', hlen, hE, hm⟩
    have hz : P.drop pl.length = [] := List.drop_eq_nil_of_le (Nat.le_of_eq hP.length.symm)
    rw [hz] at hE hlen
    exact ⟨R, F, fl, fn, B', ve, rfl, hR, hF, hB', hlen, hE, hm⟩
  case out =>
    rintro m₁ nx h tk ⟨R, F, fl, fn, B', ve, rfl, hR, hF, hB', hlen, hE, hm⟩ F2 N2
    have F3 := Fr_chain _ F2 hm
    clear F1 N1 F2 hm hlt
    with_reducible show wpAny _ _ _ _ _ _
    (try k_fold)
    k_steps
    refine hret _ _ _ _ (by assumption) (by assumption) ⟨F, _, _, rfl, .head _, sub_cons hR, fun p hp => hF p (hR p hp), ?_⟩
    rcases hE with ⟨rfl, hE, rfl⟩ | ⟨A9, q, te, rfl, hE, hq0, hq1, hq2, rfl⟩
    · rw [← hE]
      have e : jn [] = [] := by simp [jn]
      rw [e]
      exact hB'.mono fun p hp => .tail _ hp
    · rw [← hE]
      have e : jn [q] = [q] := by simp [jn]
      rw [e]
      exact hB'.mono fun p hp => .tail _ hp
end

theorem anew_09 : True := by w_top off; trivial
noncomputable def asmL (w : World) (x dx l : Addr) (k1 k2 : Tok) (ring : Int) (t : Tok) (vs : List Value) (nn : Nat) (R : Led) : Led := (x, instObj 141 dx) :: (dx, asmD w k1 k2 ring t l) :: (l, listOf vs.toArray nn) :: R
structure AsmOk (x dx l : Addr) (ring bs : Int) (vs : List Value) (I : List (Int × Int)) (R : Led) : Prop where
  tups : TupsIn R (sq ring bs) vs I
  xd : x ≠ dx
  xl : x ≠ l
  dl : dx ≠ l
  rx : ∀ p ∈ R, p.1 ≠ x
  rd : ∀ p ∈ R, p.1 ≠ dx
  rl : ∀ p ∈ R, p.1 ≠ l
section
variable {w : World} {mean : ExcName → Option Value} {mg mb : Str → Option Value} {news : Led}
theorem forget_spec {x dx l : Addr} {vs : List Value} {nn : Nat} {I : List (Int × Int)} {n ring bs : Int} {k1 k2 t tn : Tok}
    (hx : (x, instObj 141 dx) ∈ news) (hdx : (dx, asmD w k1 k2 ring t l) ∈ news) (hl : (l, listOf vs.toArray nn) ∈ news) (hT : TupsIn news (sq ring bs) vs I) (hI : ∀ p ∈ I, n ≤ p.1 ∧ p.1 ≤ 64) (hr : 256 ≤ ring) (hn : 0 ≤ n ∧ n ≤ 64) :
    Spec w mean mg mb 117 12 [.ref x, .int (sq ring bs n) tn] news (fun r n' => n' = news ∧ r = .none) := by
  unfold Spec; k_fill; intro dp un gd cn cs a' ccd cl outer A₀ base h₀ L m s Q E B F X N T hk hdp hun hret
  refine wpAny_call ?_
  k_dflt (refine' code_defM [("next", .int (sq ring bs n) tn), ("self", .ref x)] ?k1 ?k2 ?k3 ?k4 ?k5 ?kA ?kF ?kK ?k6 ?k7 ?k8 ?k9 ?kB ?_ ?c2 ?c3 ?c4 ?c5; walk_at "mine enter")
  k_steps
  show wpAny _ _ _ _ _ _
  rename Fr _ _ _ _ => F1
  rename News _ _ _ _ => N1
  refine my_while (n₀ := 0) (fun _ m nx => nx = news ∧ ∀ p ∈ [(("next" : Str), Value.int (sq ring bs n) tn), ("self", .ref x)], m p.1 = some p.2) (fun m nx => nx = news) F1 N1 ⟨rfl, all2 rfl (all2 rfl all0)⟩ ?turn ?out
  case turn =>
    rintro k m₁ nx h tk ⟨rfl, hm⟩ F2 N2 QZ9 hQZ9
    have F3 := Fr_chain _ F2 hm
    clear F1 N1 F2 hm
    cases vs with
    | nil =>
      with_reducible show wpAny _ _ _ _ _ _
      (try k_fold)
      k_steps
      refine WhileOut.intro (by assumption) (by assumption) (by walk_at "mine in") rfl
    | cons v r =>
      cases I with
      | nil => exact hT.elim
      | cons p I' =>
        obtain ⟨⟨b, t1, t2, rfl, hb⟩, -⟩ := hT
        have hp := hI p (.head _)
        with_reducible show wpAny _ _ _ _ _ _
        (try k_fold)
        k_steps
        show WhileEnd _ _ _ _ _ _ _ (.ret _) _
        dsimp only [WhileEnd]
        k_steps
        rename News _ _ _ _ => N9
        exact hret _ _ _ _ (by assumption) (fun p hp => N9 p (.tail _ hp)) ⟨rfl, rfl⟩
  case out =>
    rintro m₁ nx h tk rfl F2 N2
    clear F1 N1
    with_reducible show wpAny _ _ _ _ _ _
    (try k_fold)
    k_steps
    exact hret _ _ _ _ (by assumption) (by assumption) ⟨rfl, rfl⟩
end
theorem say_09_1 : True := by
  k_with "call ref" => ((k_here; (with_reducible show wpAny _ _ (call (Value.ref 117) _) _ _ _); k_dflt (
  (refine' Spec.useN (forget_spec ?hx ?hdx ?hl ?hT ?hI ?h1 ?h2) ?B ?F ?X ?N ?T ?hk ?hd ?hu ?_; walk_at "mine use"; (case hx => k_mem); (case hdx => k_mem); (case hl => k_mem); (case hT => walk_at "mine tups"); (case hI => assumption); (case h1 => walk_at "mine om"); (case h2 => walk_at "mine om"))); intro hZ' tkZ' FZ' NZ'; (try dsimp only); (try k_sweep); (try k_fold)))
  trivial
theorem say_09_2 : True := by
  k_with "mine tups" => (first | assumption | (refine TupsIn.mono ?_ (by assumption); intro p9Z hp9Z; k_ownIn))
  trivial
section
variable {w : World} {mean : ExcName → Option Value} {mg mb : Str → Option Value} {news : Led}
noncomputable def takeE (n : Int) : List (Int × Int) → Int
  | [] => n
  | p :: _ => if p.1 = n then p.2 else n
noncomputable def takeI (n : Int) : List (Int × Int) → List (Int × Int)
  | [] => []
  | p :: r => if p.1 = n then r else p :: r
inductive TPost (w : World) (x dx l : Addr) (k1 k2 : Tok) (ring bs : Int) (t : Tok) (n : Int) (R : Led) (I : List (Int × Int)) (r : Value) (n' : Led) : Prop
  | mk : ∀ vs' nn' tk, n' = asmL w x dx l k1 k2 ring t vs' nn' R → AsmOk x dx l ring bs vs' (takeI n I) R → r = .bytes (octs n (takeE n I)) tk → TPost w x dx l k1 k2 ring bs t n R I r n'
theorem take_spec {x dx l : Addr} {vs : List Value} {nn : Nat} {I : List (Int × Int)} {n ring bs : Int} {k1 k2 t tn : Tok} {R : Led}
    (ok : AsmOk x dx l ring bs vs I R) (hI : ∀ p ∈ I, n ≤ p.1 ∧ p.1 ≤ 64) (hIl : I.length ≤ 64) (hr : 256 ≤ ring) (hn : 0 ≤ n ∧ n ≤ 64) :
    Spec w mean mg mb 124 16 [.ref x, .int (sq ring bs n) tn] (asmL w x dx l k1 k2 ring t vs nn R)
      (TPost w x dx l k1 k2 ring bs t n R I) := by
  unfold Spec; k_fill; intro dp un gd cn cs a' ccd cl outer A₀ base h₀ L m s Q E B F X N T hk hdp hun hret
  unfold asmL at N
  obtain ⟨hT, xd, xl, dl, rx, rd, rl⟩ := id ok
  have hvl := hT.length
  refine wpAny_call ?_
  k_dflt (refine' code_defM [("next", .int (sq ring bs n) tn), ("self", .ref x)] ?k1 ?k2 ?k3 ?k4 ?k5 ?kA ?kF ?kK ?k6 ?k7 ?k8 ?k9 ?kB ?_ ?c2 ?c3 ?c4 ?c5; walk_at "mine enter")
  cases vs with
  | nil =>
    cases I with
    | cons p I' => exact hT.elim
    | nil =>
      k_steps
      rename News _ _ _ _ => N9
      exact hret _ (asmL w x dx l k1 k2 ring t [] nn R) _ _ (by assumption) (fun p hp => N9 p (.tail _ hp)) ⟨[], nn, _, rfl, ok, by rw [takeE, octs_nil (Int.le_refl _)]⟩
  | cons v r =>
    cases I with
    | nil => exact hT.elim
    | cons p I' =>
      obtain ⟨⟨b, t1, t2, rfl, hb⟩, hT'⟩ := id hT
      have hp := hI p (.head _)
      k_steps
      · rename News _ _ _ _ => N9
        rename sq ring bs p.1 ≠ sq ring bs n => hne
        have hne' : p.1 ≠ n := fun e => hne (by rw [e])
        exact hret _ (asmL w x dx l k1 k2 ring t (.ref b :: r) nn R) _ _ (by assumption) (fun p hp => N9 p (.tail _ hp)) ⟨_, nn, _, rfl, by rw [takeI, if_neg hne']; exact ok, by rw [takeE, if_neg hne', octs_nil (Int.le_refl _)]⟩
      · rename News _ _ _ _ => N9
        rename sq ring bs p.1 = sq ring bs n => he
        have he' : p.1 = n := sq_inj (by (first | lia | omega)) (by (first | lia | omega)) he
        exact hret _ (asmL w x dx l k1 k2 ring t r (nn + 1) R) _ _ (by assumption) (fun p hp => N9 p (.tail _ hp)) ⟨r, nn + 1, _, rfl, by rw [takeI, if_pos he']; exact ⟨hT', xd, xl, dl, rx, rd, rl⟩, by rw [takeE, if_pos he', ← he']⟩
end

theorem anew_10 : True := by w_top off; trivial
theorem grow3 {h₀ h : Heap} {L It F D : Addr} {a b c : Addr} {oa ob oc o o2 : Obj} {R : Led} {rl : List Value} {fn : Nat} (hlU : It < D ∧ F < D ∧ a < D ∧ b < D ∧ c < D ∧ AllLt D R)
    (N : News h₀ L h ((D, o2) :: (It, o) :: (F, listOf (rl.toArray.push (Value.ref D)) (fn + 1)) :: (a, oa) :: (b, ob) :: (c, oc) :: R)) :
    News h₀ L h ((It, o) :: (F, listOf (rl ++ [Value.ref D]).toArray (fn + 1)) :: (a, oa) :: (b, ob) :: (c, oc) :: (D, o2) :: R) := by
  rw [push_listOf] at N
  intro p hp
  apply N p
  revert p; walk_at "mine in"
noncomputable def cutI (f : Int) : List (Int × Int) → List (Int × Int)
  | [] => []
  | p :: r => if p.1 < min p.2 f then (p.1, min p.2 f) :: cutI f r else cutI f r
theorem cutI_yes {f : Int} {p : Int × Int} {r : List (Int × Int)} (h : p.1 < min p.2 f) : cutI f (p :: r) = (p.1, min p.2 f) :: cutI f r := by rw [cutI, if_pos h]
theorem cutI_no {f : Int} {p : Int × Int} {r : List (Int × Int)} (h : ¬ p.1 < min p.2 f) : cutI f (p :: r) = cutI f r := by rw [cutI, if_neg h]
theorem AsmOk.grow {x dx l D : Addr} {o : Obj} {ring bs : Int} {vs : List Value} {I : List (Int × Int)} {R : Led} (ok : AsmOk x dx l ring bs vs I R) (h1 : D ≠ x) (h2 : D ≠ dx) (h3 : D ≠ l) : AsmOk x dx l ring bs vs I ((D, o) :: R) :=
  ⟨ok.tups.mono fun p hp => .tail _ hp, ok.xd, ok.xl, ok.dl, all2 h1 ok.rx, all2 h2 ok.rd, all2 h3 ok.rl⟩
section
variable {w : World} {mean : ExcName → Option Value} {mg mb : Str → Option Value} {news : Led}
inductive APost (w : World) (x dx : Addr) (k1 k2 : Tok) (ring bs : Int) (t : Tok) (R : Led) (I' : List (Int × Int)) (r : Value) (n' : Led) : Prop
  | mk : ∀ l' vs' nn' R', n' = asmL w x dx l' k1 k2 ring t vs' nn' R' → (∀ p ∈ R, p ∈ R') → AsmOk x dx l' ring bs vs' I' R' → r = .none → APost w x dx k1 k2 ring bs t R I' r n'
inductive CutJ (w : World) (x dx l : Addr) (k1 k2 : Tok) (ring bs : Int) (t : Tok) (vs : List Value) (nn : Nat) (R : Led) (f n : Int) (I : List (Int × Int)) (vs1 vs2 : Value) (ps : List (Int × Int)) (m : Str → Option Value) (nx : Led) : Prop
  | mk : ∀ (R' : Led) (F : Addr) (fl : List Value) (fn : Nat) (B : List (Int × Int)) (tm : Tok), nx = (F, listOf fl.toArray fn) :: asmL w x dx l k1 k2 ring t vs nn R' →
    (∀ p ∈ R, p ∈ R') →
    AsmOk x dx l ring bs vs I R' →
    (∀ p ∈ R', p.1 ≠ F) →
    F ≠ x →
    F ≠ dx →
    F ≠ l →
    TupsIn R' (sq ring bs) fl B →
    fl.length + ps.length ≤ I.length →
    B ++ cutI f ps = cutI f I →
    (∀ p ∈ [(("found" : Str), Value.ref F), ("most", .int (f - n) tm), ("next", vs1), ("self", vs2)], m p.1 = some p.2) → CutJ w x dx l k1 k2 ring bs t vs nn R f n I vs1 vs2 ps m nx
theorem cut_if {a b f n : Int} (h : a < b) : min b (a + if f - n - (a - n) > 0 then f - n - (a - n) else 0) = if a < f then min b f else a := by
  have e : f - n - (a - n) = f - a := by lia
  rw [e]
  by_cases g : a < f
  · rw [if_pos (Int.sub_pos_of_lt g), if_pos g, Int.add_comm, Int.sub_add_cancel]
  · rw [if_neg (fun k => g (Int.lt_of_sub_pos k)), if_neg g, Int.add_zero, Int.min_eq_right (Int.le_of_lt h)]
theorem cut_yes {a b f n : Int} (h : a < b) (k : a < min b (a + if f - n - (a - n) > 0 then f - n - (a - n) else 0)) : a < min b f ∧ min b (a + if f - n - (a - n) > 0 then f - n - (a - n) else 0) = min b f := by
  rw [cut_if h] at k ⊢
  by_cases g : a < f
  · rw [if_pos g] at k ⊢; exact ⟨k, rfl⟩
  · rw [if_neg g] at k; exact absurd k (Int.lt_irrefl _)
theorem cut_no {a b f n : Int} (h : a < b) (k : ¬ a < min b (a + if f - n - (a - n) > 0 then f - n - (a - n) else 0)) : ¬ a < min b f := by
  rw [cut_if h] at k
  by_cases g : a < f
  · rwa [if_pos g] at k
  · exact fun q => g (Int.lt_of_lt_of_le q (Int.min_le_right _ _))
theorem cut_spec {x dx l : Addr} {vs : List Value} {nn : Nat} {I : List (Int × Int)} {f n ring bs : Int} {k1 k2 t tn tf : Tok} {R : Led}
    (ok : AsmOk x dx l ring bs vs I R) (hI : ∀ p ∈ I, 0 ≤ p.1 ∧ p.1 < p.2 ∧ p.2 ≤ 64) (hIl : I.length ≤ 64) (hr : 256 ≤ ring) (hn : 0 ≤ n ∧ n ≤ 64 ∧ 0 ≤ f ∧ f ≤ 64) :
    Spec w mean mg mb 138 16 [.ref x, .int (sq ring bs f) tf, .int (sq ring bs n) tn] (asmL w x dx l k1 k2 ring t vs nn R)
      (APost w x dx k1 k2 ring bs t R (cutI f I)) := by
  unfold Spec; k_fill; intro dp un gd cn cs a' ccd cl outer A₀ base h₀ L m s Q E B F X N T hk hdp hun hret
  unfold asmL at N
  obtain ⟨hT, xd, xl, dl, rx, rd, rl⟩ := id ok
  have hvl := hT.length
  refine wpAny_call ?_
  k_dflt (refine' code_defM [("next", .int (sq ring bs n) tn), ("edge", .int (sq ring bs f) tf), ("self", .ref x)] ?k1 ?k2 ?k3 ?k4 ?k5 ?kA ?kF ?kK ?k6 ?k7 ?k8 ?k9 ?kB ?_ ?c2 ?c3 ?c4 ?c5; walk_at "mine enter")
  k_steps
  rename Fr _ _ _ _ => F1
  rename News _ _ _ _ => N1
  rename x < _ ∧ dx < _ ∧ l < _ ∧ AllLt _ R => hlt
  refine my_iter (fun i => CutJ w x dx l k1 k2 ring bs t vs nn R f n I (.int (sq ring bs n) tn) (.ref x) (I.drop i)) (CutJ w x dx l k1 k2 ring bs t vs nn R f n I (.int (sq ring bs n) tn) (.ref x) []) rfl (.tail _ (.tail _ (.tail _ (.head _)))) F1 N1 ?h0 ?turn ?done ?out
  case h0 =>
    exact ⟨R, _, [], 0, [], _, rfl, fun _ h => h, ok, allLt_ne hlt.2.2.2, Nat.ne_of_gt hlt.1, Nat.ne_of_gt hlt.2.1, Nat.ne_of_gt hlt.2.2.1, True.intro, by simp, rfl, all2 rfl (all2 rfl (all2 rfl (all2 rfl all0)))⟩
  case turn =>
    rintro i v9 m₁ nx h tk It o hv hoff hl9 ⟨R', F, fl, fn, B', tm, rfl, hR, ok', hF, hFx, hFd, hFl, hB', hlen, hE, hm⟩ F2 N2 QZ9 hQZ9
    obtain ⟨p, a, t1, t2, hp, rfl, hmem⟩ := ok'.tups.get hv
    have F3 := Fr_chain _ F2 hm
    have hIp := hI p (List.mem_of_getElem? hp)
    rw [drop_cons hp] at hE hlen
    rw [List.length_cons] at hlen
    unfold asmL at N2 hoff
    have hFI : F ≠ It := hoff _ (.head _)
    clear F1 N1 F2 hm hlt
    with_reducible show wpAny _ _ _ _ _ _
    k_fold
    k_steps
    · rename It < _ ∧ F < _ ∧ x < _ ∧ dx < _ ∧ l < _ ∧ AllLt _ R' => hl1
      rename (_ : Array UInt8) = octs _ _ => hx9
      have N9 := grow3 hl1 (by assumption)
      show TurnEnd _ _ _ _ _ _ _ .next _
      have hy9 := cut_yes (n := n) (f := f) hIp.2.1 (by assumption)
      have hy := hy9.1
      refine TurnEnd.next (by assumption) N9 (.head _) (fun p hp => .tail _ hp) ?_ ⟨.tail _ (.tail _ (.tail _ (.head _))), _, F, _, _, B' ++ [(p.1, min p.2 f)], _, rfl, sub_cons hR, ok'.grow (Nat.ne_of_gt hl1.2.2.1) (Nat.ne_of_gt hl1.2.2.2.1) (Nat.ne_of_gt hl1.2.2.2.2.1), all2 (Nat.ne_of_gt hl1.2.1) hF, hFx, hFd, hFl, (hB'.mono fun p hp => .tail _ hp).snoc (.head _) rfl ?_, ?_, ?_, all2 rfl (all2 rfl (all2 rfl (all2 rfl all0)))⟩
      · exact all2 hFI (all2 (hoff _ (.tail _ (.head _))) (all2 (hoff _ (.tail _ (.tail _ (.head _)))) (all2 (hoff _ (.tail _ (.tail _ (.tail _ (.head _))))) (all2 (Nat.ne_of_gt hl1.1) fun p hp => hoff p (.tail _ (.tail _ (.tail _ (.tail _ hp))))))))
      · rw [hx9]; exact congrArg (octs p.1) hy9.2
      · rw [List.length_append, List.length_singleton]; (first | lia | omega)
      · rw [← hE, cutI_yes hy, List.append_assoc]; rfl
    · show TurnEnd _ _ _ _ _ _ _ .next _
      have hy := cut_no (n := n) (f := f) hIp.2.1 (by assumption)
      rename News _ _ _ _ => N9
      refine TurnEnd.next (by assumption) N9 (.head _) (fun p hp => .tail _ hp) hoff ⟨.tail _ (.tail _ (.tail _ (.head _))), R', F, fl, fn, B', _, rfl, hR, ok', hF, hFx, hFd, hFl, hB', by (first | lia | omega), ?_, all2 rfl (all2 rfl (all2 rfl (all2 rfl all0)))⟩
      rw [← hE, cutI_no hy]
  case done =>
    rintro m₁ nx - ⟨R', F, fl, fn, B', tm, rfl, hR, ok', hF, hFx, hFd, hFl, hB', hlen, hE, hm⟩
    have hz : I.drop vs.length = [] := List.drop_eq_nil_of_le (Nat.le_of_eq hT.length.symm)
    rw [hz] at hE hlen
    exact ⟨R', F, fl, fn, B', tm, rfl, hR, ok', hF, hFx, hFd, hFl, hB', hlen, hE, hm⟩
  case out =>
    rintro m₁ nx h tk ⟨R', F, fl, fn, B', tm, rfl, hR, ok', hF, hFx, hFd, hFl, hB', hlen, hE, hm⟩ F2 N2
    have F3 := Fr_chain _ F2 hm
    unfold asmL at N2
    obtain ⟨hT', -, -, -, rx', rd', rl'⟩ := id ok'
    clear F1 N1 F2 hm hlt
    with_reducible show wpAny _ _ _ _ _ _
    (try k_fold)
    k_steps
    rename News _ _ _ _ => N9
    refine hret _ (asmL w x dx F k1 k2 ring t fl fn R') _ _ (by assumption) (fun p hp => N9 p ?_) ⟨F, fl, fn, R', rfl, hR, ⟨?_, xd, Ne.symm hFx, Ne.symm hFd, rx', rd', hF⟩, rfl⟩
    · revert p; unfold asmL; walk_at "mine in"
    · have e : B' = cutI f I := by rw [← hE]; simp [cutI]
      rw [← e]; exact hB'
end

theorem anew_11 : True := by w_top off; trivial
theorem miss_len (v : Int) : ∀ (I : List (Int × Int)) (a : Int), (miss v I a).length ≤ I.length + 1
  | [], a => by simp only [miss]; split <;> simp
  | p :: r, a => by
    have h1 := miss_len v r a
    have h2 := miss_len v r p.2
    obtain ⟨b, c⟩ := p
    simp only [miss]
    split
    · simp only [List.length_cons]; (first | lia | omega)
    · split
      · split <;> simp
      · split
        · simp only [List.length_cons] at h2 ⊢; (first | lia | omega)
        · simp only [List.length_cons] at h2 ⊢; (first | lia | omega)
theorem miss_in {v : Int} : ∀ {I : List (Int × Int)} {a : Int}, (∀ p ∈ I, p.1 < p.2) → ∀ q ∈ miss v I a, a ≤ q.1 ∧ q.1 < q.2 ∧ q.2 ≤ v
  | [], a, _, q, hq => by
    simp only [miss] at hq
    split at hq
    · rw [List.mem_singleton.mp hq]; dsimp only; (first | lia | omega)
    · exact (List.not_mem_nil hq).elim
  | p :: r, a, hI, q, hq => by
    have h1 := fun x => miss_in (v := v) (I := r) (a := x) (fun p hp => hI p (.tail _ hp)) q
    have hp := hI p (.head _)
    by_cases c1 : p.2 ≤ a
    · rw [miss_cont c1] at hq; exact h1 a hq
    · by_cases c2 : v ≤ p.1
      · rw [miss_brk c1 c2] at hq
        simp only [miss] at hq
        split at hq
        · rw [List.mem_singleton.mp hq]; dsimp only; (first | lia | omega)
        · exact (List.not_mem_nil hq).elim
      · by_cases c3 : a < p.1
        · rw [miss_gap c1 c2 c3] at hq
          rcases List.mem_cons.mp hq with rfl | hq
          · dsimp only; (first | lia | omega)
          · have := h1 p.2 hq; (first | lia | omega)
        · rw [miss_on c1 c2 c3] at hq
          have := h1 p.2 hq; (first | lia | omega)
theorem mrg_mem : ∀ {I G : List (Int × Int)} {q : Int × Int}, q ∈ mrg I G → q ∈ I ∨ q ∈ G
  | [], _, _, h => .inr h
  | p :: r, G, q, h => by
    rw [mrg] at h
    rcases List.mem_append.mp h with h | h
    · exact .inr (List.takeWhile_subset _ h)
    · rcases List.mem_cons.mp h with rfl | h
      · exact .inl (.head _)
      · rcases mrg_mem h with h | h
        · exact .inl (.tail _ h)
        · exact .inr (List.dropWhile_subset _ h)
theorem mrg_len : ∀ (I G : List (Int × Int)), (mrg I G).length = I.length + G.length
  | [], G => by simp [mrg]
  | p :: r, G => by
    have h := mrg_len r (G.dropWhile fun q => decide (q.1 < p.1))
    have h2 := congrArg List.length (List.takeWhile_append_dropWhile (p := fun q : Int × Int => decide (q.1 < p.1)) (l := G))
    rw [List.length_append] at h2
    rw [mrg, List.length_append, List.length_cons, List.length_cons, h]
    (first | lia | omega)
noncomputable def putI (n u v : Int) (I : List (Int × Int)) : List (Int × Int) := if miss (max n v) I (max n u) = [] then I else jn (mrg I (miss (max n v) I (max n u)))
theorem TupsIn.monoT {news news' : Led} {g : Int → Int} (hs : ∀ a i t b t', (a, tup2 (.int i t) (.bytes b t')) ∈ news → (a, tup2 (.int i t) (.bytes b t')) ∈ news') : ∀ {vs : List Value} {ps : List (Int × Int)}, TupsIn news g vs ps → TupsIn news' g vs ps
  | [], [], _ => True.intro
  | [], _ :: _, h => h.elim
  | _ :: _, [], h => h.elim
  | _ :: _, _ :: _, ⟨⟨a, t, t', e, hm⟩, h⟩ => ⟨⟨a, t, t', e, hs _ _ _ _ _ hm⟩, TupsIn.monoT hs h⟩
/-- two entries of a ledger at one place are one -/
theorem News.one {h₀ h : Heap} {L a : Addr} {o o' : Obj} {n : Led} (N : News h₀ L h n) (h1 : (a, o) ∈ n) (h2 : (a, o') ∈ n) : o = o' := Option.some.inj ((N _ h1).1.symm.trans (N _ h2).1)
theorem tup_ne_inst {u v : Value} {C dx : Addr} : tup2 u v ≠ instObj C dx := fun e => by injection e with h; cases h
theorem tup_ne_list {u v : Value} {l : Array Value} {n : Nat} : tup2 u v ≠ listOf l n := fun e => by
  injection e with h
  injection h with h
  exact absurd h (by decide)
theorem tup_ne_dict {u v : Value} {l : List DictEntry} {n : Nat} : tup2 u v ≠ dictOf l n := fun e => by
  injection e with h _ h2
  cases h2
theorem reform {w : World} {h₀ h : Heap} {L x dx l F : Addr} {k1 k2 t : Tok} {ring bs : Int} {vs rl : List Value} {nn fn : Nat} {I I' : List (Int × Int)} {R n3 : Led} (ok : AsmOk x dx l ring bs vs I R) (N : News h₀ L h n3)
    (hsub : ∀ p ∈ asmL w x dx l k1 k2 ring t vs nn R, p ∈ n3) (hF : (F, listOf rl.toArray fn) ∈ n3) (hne : ∀ p ∈ asmL w x dx l k1 k2 ring t vs nn R, p.1 ≠ F) (hT : TupsIn n3 (sq ring bs) rl I') :
    ∃ R', News h₀ L h ((x, instObj 141 dx) :: (dx, asmD w k1 k2 ring t l) :: (F, listOf rl.toArray fn) :: R') ∧ (∀ p ∈ R, p ∈ R') ∧ AsmOk x dx F ring bs rl I' R' := by
  have hx := hsub _ (.head _)
  have hd := hsub _ (.tail _ (.head _))
  refine ⟨n3.filter (fun p => decide (p.1 ≠ x ∧ p.1 ≠ dx ∧ p.1 ≠ F)), ?_, ?_, ?_, ok.xd, hne _ (.head _), hne _ (.tail _ (.head _)), ?_, ?_, ?_⟩
  · intro p hp
    simp only [List.mem_cons] at hp
    rcases hp with rfl | rfl | rfl | hp
    · exact N _ hx
    · exact N _ hd
    · exact N _ hF
    · exact N _ (List.mem_filter.mp hp).1
  · intro p hp
    exact List.mem_filter.mpr ⟨hsub _ (.tail _ (.tail _ (.tail _ hp))), decide_eq_true ⟨ok.rx p hp, ok.rd p hp, hne _ (.tail _ (.tail _ (.tail _ hp)))⟩⟩
  · refine hT.monoT fun a i t b t' ha => List.mem_filter.mpr ⟨ha, decide_eq_true ⟨?_, ?_, ?_⟩⟩
    · rintro rfl; exact tup_ne_inst (News.one N ha hx)
    · rintro rfl; exact tup_ne_dict (News.one N ha hd)
    · rintro rfl; exact tup_ne_list (News.one N ha hF)
  · intro p hp; exact (of_decide_eq_true (List.mem_filter.mp hp).2).1
  · intro p hp; exact (of_decide_eq_true (List.mem_filter.mp hp).2).2.1
  · intro p hp; exact (of_decide_eq_true (List.mem_filter.mp hp).2).2.2
section
variable {w : World} {mean : ExcName → Option Value} {mg mb : Str → Option Value} {news : Led}
theorem missing_spec' {x dx l : Addr} {vs : List Value} {nn : Nat} {I : List (Int × Int)} {b : Array UInt8} {bg : Int} (u v : Int) {n ring bs : Int} {k1 k2 t tb to tn : Tok} (hbg : bg = u - n) (hb : b = octs u v)
    (hx : (x, instObj 141 dx) ∈ news) (hdx : (dx, asmD w k1 k2 ring t l) ∈ news) (hl : (l, listOf vs.toArray nn) ∈ news) (hT : TupsIn news (sq ring bs) vs I) (hI : ∀ p ∈ I, 0 ≤ p.1 ∧ p.1 < p.2 ∧ p.2 ≤ 64) (hIl : I.length ≤ 64)
    (hr : 256 ≤ ring) (hn : 0 ≤ n ∧ n ≤ u ∧ u ≤ v ∧ v ≤ 64) :
    Spec w mean mg mb 96 12 [.ref x, .int bg tb, .bytes b to, .int (sq ring bs n) tn] news (LPost news (fun p => p - n) (miss v I u)) := by
  subst hbg hb
  exact missing_spec hx hdx hl hT hI hIl hr hn
theorem put_spec {x dx l : Addr} {vs : List Value} {nn : Nat} {I : List (Int × Int)} {u v n ring bs : Int} {k1 k2 t tu to tn : Tok} {R : Led}
    (ok : AsmOk x dx l ring bs vs I R) (hI : ∀ p ∈ I, n ≤ p.1 ∧ p.1 < p.2 ∧ p.2 ≤ 64) (hIl : I.length ≤ 30) (hr : 256 ≤ ring) (hn : 0 ≤ n ∧ n ≤ 64 ∧ 0 ≤ u ∧ u ≤ v ∧ v ≤ 64) :
    Spec w mean mg mb 89 20 [.ref x, .int (sq ring bs u) tu, .bytes (octs u v) to, .int (sq ring bs n) tn] (asmL w x dx l k1 k2 ring t vs nn R)
      (APost w x dx k1 k2 ring bs t R (putI n u v I)) := by
  have hI0 : ∀ p ∈ I, 0 ≤ p.1 ∧ p.1 < p.2 ∧ p.2 ≤ 64 := fun p hp => by have := hI p hp; (first | lia | omega)
  have hI1 : ∀ p ∈ I, n ≤ p.1 ∧ p.1 ≤ 64 := fun p hp => by have := hI p hp; (first | lia | omega)
  unfold Spec; k_fill; intro dp un gd cn cs a' ccd cl outer A₀ base h₀ L m s Q E B F X N T hk hdp hun hret
  unfold asmL at N
  obtain ⟨hT, xd, xl, dl, rx, rd, rl⟩ := id ok
  have hvl := hT.length
  have hT0 : TupsIn ((x, instObj 141 dx) :: (dx, asmD w k1 k2 ring t l) :: (l, listOf vs.toArray nn) :: R) (sq ring bs) vs I := hT.mono fun p hp => .tail _ (.tail _ (.tail _ hp))
  refine wpAny_call ?_
  k_dflt (refine' code_defM [("next", .int (sq ring bs n) tn), ("octets", .bytes (octs u v) to), ("seq", .int (sq ring bs u) tu), ("self", .ref x)] ?k1 ?k2 ?k3 ?k4 ?k5 ?kA ?kF ?kK ?k6 ?k7 ?k8 ?k9 ?kB ?_ ?c2 ?c3 ?c4 ?c5; walk_at "mine enter")
  k_steps
  · rename (_ : Array UInt8) = octs _ _ => hx9
    k_dflt (refine' Spec.use (missing_spec' n (max n v) ?hbg ?hb ?hx ?hdx ?hl ?hT ?hI ?hIl ?h1 ?h2) ?B ?F ?X ?N ?T ?hk ?hd ?hu ?_; walk_at "mine use"; (case hbg => (first | lia | omega)); (case hb => (rw [hx9, show u + (0 - (u - n)) = n by (first | lia | omega)]; by_cases hnv : n ≤ v; (congr 1; (first | lia | omega)); rw [octs_nil (by (first | lia | omega)), octs_nil (by (first | lia | omega))])); (case hx => k_mem); (case hdx => k_mem); (case hl => k_mem); (case hT => exact hT0); (case hI => exact hI0); (case hIl => (first | lia | omega)); (case h1 => exact hr); (case h2 => walk_at "mine om"))
    rintro r9 n1 h9 tk9 F9 N9 ⟨Fa, rl1, fn1, rfl, hFa, hs1, hne1, hT1⟩
    have hu1 : max n u = n := by (first | lia | omega)
    have hv1 : max n v = (max n v) := by (first | lia | omega)
    have hml := miss_len ((max n v)) I (n)
    have hmi := miss_in (v := (max n v)) (I := I) (a := n) (fun p hp => (hI p hp).2.1)
    clear N
    (try dsimp only)
    (try k_sweep)
    (try k_fold)
    have hx1 : (x, instObj 141 dx) ∈ n1 := hs1 _ (.head _)
    have hd1 : (dx, asmD w k1 k2 ring t l) ∈ n1 := hs1 _ (.tail _ (.head _))
    generalize hG : miss ((max n v)) I (n) = G at *
    cases rl1 with
    | nil =>
      cases G with
      | cons q G' => exact hT1.elim
      | nil =>
        k_steps
        rename News _ _ _ _ => N8
        exact hret _ (asmL w x dx l k1 k2 ring t vs nn R) _ _ (by assumption) (fun p hp => N8 p (.tail _ (hs1 p hp))) ⟨l, vs, nn, R, rfl, fun _ h => h, by rw [putI, hu1, hv1, hG, if_pos rfl]; exact ok, rfl⟩
    | cons v1 r1 =>
      have hGne : G ≠ [] := fun e => by rw [e] at hT1; exact hT1.elim
      k_steps
      k_dflt (refine' Spec.use (merged_spec (rl := v1 :: r1) (I := I) (G := G) ?hx ?hdx ?hl ?hT ?hI ?hIl ?hf ?hG ?hGl ?h1 ?h2) ?B ?F ?X ?N ?T ?hk ?hd ?hu ?_; walk_at "mine use"; (case hx => exact .tail _ (hs1 _ (.head _))); (case hdx => exact .tail _ (hs1 _ (.tail _ (.head _)))); (case hl => exact .tail _ (hs1 _ (.tail _ (.tail _ (.head _))))); (case hT => exact hT0.mono fun p hp => .tail _ (hs1 p hp)); (case hI => exact hI0); (case hIl => (first | lia | omega)); (case hf => exact .tail _ hFa); (case hG => exact hT1.mono fun p hp => .tail _ hp); (case hGl => rw [hT1.length]; (first | lia | omega)); (case h1 => exact hr); (case h2 => walk_at "mine om"))
      rintro r9 n2 h9 tk9 F9 N9 ⟨Fb, rl2, fn2, rfl, hFb, hs2, hne2, hT2⟩
      have hx2 := hs2 _ (.tail _ hx1)
      have hd2 := hs2 _ (.tail _ hd1)
      (try dsimp only)
      (try k_sweep)
      (try k_fold)
      k_steps
      k_dflt (refine' Spec.use (joined_spec (pl := rl2) (P := mrg I G) ?hx ?hdx ?hD ?hP ?hb ?hPl ?h1 ?h2) ?B ?F ?X ?N ?T ?hk ?hd ?hu ?_; walk_at "mine use"; (case hx => exact hs2 _ (.tail _ (hs1 _ (.head _)))); (case hdx => exact hs2 _ (.tail _ (hs1 _ (.tail _ (.head _))))); (case hD => exact hFb); (case hP => exact hT2); (case hb => (intro p hp; rcases mrg_mem hp with h | h; exact hI0 p h; (have := hmi p h); (first | lia | omega))); (case hPl => (rw [hT2.length, mrg_len]; (first | lia | omega))); (case h1 => exact hr); (case h2 => walk_at "mine om"))
      rintro r9 n3 h9 tk9 F9 N9 ⟨Fc, rl3, fn3, rfl, hFc, hs3, hne3, hT3⟩
      obtain ⟨R3, N3, hR3, ok3⟩ := reform ok N9 (fun p hp => hs3 p (hs2 p (.tail _ (hs1 p hp)))) hFc (fun p hp => hne3 p (hs2 p (.tail _ (hs1 p hp)))) hT3
      obtain ⟨hT4, -, xl4, dl4, rx4, rd4, rl4⟩ := id ok3
      clear N9
      (try dsimp only)
      (try k_sweep)
      (try k_fold)
      k_steps
      exact hret _ (asmL w x dx Fc k1 k2 ring t rl3 fn3 R3) _ _ (by assumption) (by assumption) ⟨Fc, rl3, fn3, R3, rfl, hR3, by rw [putI, hu1, hv1, hG, if_neg hGne]; exact ok3, rfl⟩
  · k_dflt (refine' Spec.use (missing_spec' u v ?hbg ?hb ?hx ?hdx ?hl ?hT ?hI ?hIl ?h1 ?h2) ?B ?F ?X ?N ?T ?hk ?hd ?hu ?_; walk_at "mine use"; (case hbg => (first | lia | omega)); (case hb => rfl); (case hx => k_mem); (case hdx => k_mem); (case hl => k_mem); (case hT => exact hT0); (case hI => exact hI0); (case hIl => (first | lia | omega)); (case h1 => exact hr); (case h2 => walk_at "mine om"))
    rintro r9 n1 h9 tk9 F9 N9 ⟨Fa, rl1, fn1, rfl, hFa, hs1, hne1, hT1⟩
    have hu1 : max n u = u := by (first | lia | omega)
    have hv1 : max n v = v := by (first | lia | omega)
    have hml := miss_len (v) I (u)
    have hmi := miss_in (v := v) (I := I) (a := u) (fun p hp => (hI p hp).2.1)
    clear N
    (try dsimp only)
    (try k_sweep)
    (try k_fold)
    have hx1 : (x, instObj 141 dx) ∈ n1 := hs1 _ (.head _)
    have hd1 : (dx, asmD w k1 k2 ring t l) ∈ n1 := hs1 _ (.tail _ (.head _))
    generalize hG : miss (v) I (u) = G at *
    cases rl1 with
    | nil =>
      cases G with
      | cons q G' => exact hT1.elim
      | nil =>
        k_steps
        rename News _ _ _ _ => N8
        exact hret _ (asmL w x dx l k1 k2 ring t vs nn R) _ _ (by assumption) (fun p hp => N8 p (.tail _ (hs1 p hp))) ⟨l, vs, nn, R, rfl, fun _ h => h, by rw [putI, hu1, hv1, hG, if_pos rfl]; exact ok, rfl⟩
    | cons v1 r1 =>
      have hGne : G ≠ [] := fun e => by rw [e] at hT1; exact hT1.elim
      k_steps
      k_dflt (refine' Spec.use (merged_spec (rl := v1 :: r1) (I := I) (G := G) ?hx ?hdx ?hl ?hT ?hI ?hIl ?hf ?hG ?hGl ?h1 ?h2) ?B ?F ?X ?N ?T ?hk ?hd ?hu ?_; walk_at "mine use"; (case hx => exact .tail _ (hs1 _ (.head _))); (case hdx => exact .tail _ (hs1 _ (.tail _ (.head _)))); (case hl => exact .tail _ (hs1 _ (.tail _ (.tail _ (.head _))))); (case hT => exact hT0.mono fun p hp => .tail _ (hs1 p hp)); (case hI => exact hI0); (case hIl => (first | lia | omega)); (case hf => exact .tail _ hFa); (case hG => exact hT1.mono fun p hp => .tail _ hp); (case hGl => rw [hT1.length]; (first | lia | omega)); (case h1 => exact hr); (case h2 => walk_at "mine om"))
      rintro r9 n2 h9 tk9 F9 N9 ⟨Fb, rl2, fn2, rfl, hFb, hs2, hne2, hT2⟩
      have hx2 := hs2 _ (.tail _ hx1)
      have hd2 := hs2 _ (.tail _ hd1)
      (try dsimp only)
      (try k_sweep)
      (try k_fold)
      k_steps
      k_dflt (refine' Spec.use (joined_spec (pl := rl2) (P := mrg I G) ?hx ?hdx ?hD ?hP ?hb ?hPl ?h1 ?h2) ?B ?F ?X ?N ?T ?hk ?hd ?hu ?_; walk_at "mine use"; (case hx => exact hs2 _ (.tail _ (hs1 _ (.head _)))); (case hdx => exact hs2 _ (.tail _ (hs1 _ (.tail _ (.head _))))); (case hD => exact hFb); (case hP => exact hT2); (case hb => (intro p hp; rcases mrg_mem hp with h | h; exact hI0 p h; (have := hmi p h); (first | lia | omega))); (case hPl => (rw [hT2.length, mrg_len]; (first | lia | omega))); (case h1 => exact hr); (case h2 => walk_at "mine om"))
      rintro r9 n3 h9 tk9 F9 N9 ⟨Fc, rl3, fn3, rfl, hFc, hs3, hne3, hT3⟩
      obtain ⟨R3, N3, hR3, ok3⟩ := reform ok N9 (fun p hp => hs3 p (hs2 p (.tail _ (hs1 p hp)))) hFc (fun p hp => hne3 p (hs2 p (.tail _ (hs1 p hp)))) hT3
      obtain ⟨hT4, -, xl4, dl4, rx4, rd4, rl4⟩ := id ok3
      clear N9
      (try dsimp only)
      (try k_sweep)
      (try k_fold)
      k_steps
      exact hret _ (asmL w x dx Fc k1 k2 ring t rl3 fn3 R3) _ _ (by assumption) (by assumption) ⟨Fc, rl3, fn3, R3, rfl, hR3, by rw [putI, hu1, hv1, hG, if_neg hGne]; exact ok3, rfl⟩
end

theorem anew_12 : True := by w_top off; trivial
section
variable {prog : Program} {w : World} {A A₀ : Around} {E : Value → Shared → Prop} {s : Shared} {K : Frag} {C L : Addr} {h₀ base : Heap} {m mg mb : Str → Option Value} {news : List (Addr × Obj)} {p : Program} {loose : List Str} {mean : ExcName → Option Value} {R : Result → Shared → Prop}
theorem codeC_func {body : List Stmt} {env : Env}
    (h : wpC (model prog w) (A.deeper env) (execs body env) (fun f s' => R (.ok (.ret (match f with | .ret v => v | _ => .none))) s')
      (fun e s' => wpAny (model prog w) (A.deeper env) (leaving env e) (fun _ s'' => R (.error e) s'') (fun e' s'' => R (.error e') s'') s') s) : codeC (model prog w) A (.func body env) R s := by
  refine codeC_tree rfl ?_
  show wpC _ (A.deeper env) (do point; match ← (execs body env).onRaise (leaving env) with | .ret v => ret v | _ => ret .none) _ _ s
  refine wpC_bindA (wpAny_point (wpC_bind (wpC_onRaise (wpC_mono h (fun f s' h' => ?_) fun _ _ h' => h'))))
  cases f <;> exact wpC_pure h'
theorem codeC_call {a : Addr} {args : Args} {o : Obj} {fd : FuncData} {body : List Stmt} (hroom : A.depth < recursionLimit) (ho : s.heap.get? a = some o)
    (hd' : o.data = .func fd) (hco : fd.scope.isCoroutine = false) (hgen : fd.scope.isGenerator = false) (hbody : fd.body = .stmts body) (hcd : s.heap.CodeRec fd.code fd.qualname)
    (h : wpAny (model prog w) A.in1 (bindArgs fd args) (fun binds s₁ =>
      wpAny (model prog w) A.in1 (newFunctionEnv fd.scope fd.globals fd.closure binds (fd.qualname ++ ".<locals>.") (some a) fd.code none fd.builtins)
        (fun env s₂ => s₂.heap.NoLimit ∧ codeC (model prog w) A (.func body env) R s₂) (fun e s' => R (.error e) s') s₁) (fun e s' => R (.error e) s') s) :
    codeC (model prog w) A (.call (.ref a) args) R s := by
  refine codeC_treeA rfl ?_
  show wpAny _ A.in1 (callAny (.ref a) args) _ _ s
  simp only [callAny]
  refine wpAny_bind (wpAny_load ho ?_)
  obtain ⟨c, oc, vs, tq, hc, hoc, hdc, hq⟩ := hcd
  simp only [hd', callFunction, hco, hgen, hbody, hc]
  rw [hc] at h
  refine wpAny_bind (m := field (.ref c) 1) (wpAny_field hoc hdc hq (wpAny_bind (wpAny_pure ?_)))
  refine wpAny_bind (wpAny_mono h (fun binds s₁ h₁ => ?_) fun _ _ h' => h')
  refine wpAny_bind (wpAny_mono h₁ (fun env s₂ h₂ => ?_) fun _ _ h' => h')
  exact wpAny_bind (wpAny_enterFrame h₂.1 hroom (wpAny_pure ⟨rfl, h₂.2⟩))
theorem code_defC' (rb : List (Str × Value)) {env : Env} {outer : List Env} {name qual : Str} {params : Arguments} {body : List Stmt} {scope : Scope} {dV kV doc pm cdv ct oc : Value} {an od : Option Addr} {osl : Array (Option Value)} {f : Addr} {args : Args}
    (B : Below A₀ base outer h₀) (F : Fr h₀ L s.heap m) (X₀ : K.In h₀) (N : News h₀ L s.heap news) (T : Top p loose mean mg mb h₀) (hA : A.frames = some (env :: outer)) (hf : env.frame = some L) (hke : env.scope.kind = .function)
    (ho : K.lookup f = some ⟨oc, od, .func (fnOf name qual params body scope dV kV doc pm an cdv ct), osl⟩) (hcd : codeIn K cdv qual = true) (hroom : A.depth < recursionLimit)
    (hbind : BindsTo s (fnOf name qual params body scope dV kV doc pm an cdv ct) args rb.reverse) (hloc : ∀ y ∈ rb.reverse, scope.names.lookup y.1 = some .local)
    (h : ∀ g L' h₁ tk, Fr h₀ L g m → Fr g L' h₁ (chain rb fun _ => none) → News g L' h₁ news → Below A base (env :: outer) g → K.In g → Top p loose mean mg mb g →
      wpC (model prog w) (A.deeper (envOf qual scope L' f cdv)) (execs body (envOf qual scope L' f cdv))
        (fun fl s' => LeaveK h₀ L m g R (match fl with | .ret v => v | _ => .none) s')
        (fun e s' => wpAny (model prog w) (A.deeper (envOf qual scope L' f cdv)) (leaving (envOf qual scope L' f cdv) e) (fun _ s'' => R (.error e) s'') (fun e' s'' => R (.error e') s'') s')
        { s with heap := h₁, toks := tk })
    (hco : scope.isCoroutine = false) (hgen : scope.isGenerator = false) (hk : scope.kind = .function)
    (hcell : ∀ x ∈ scope.names, x.2 ≠ .cell) : codeC (model prog w) A (.call (.ref f) args) R s := by
  obtain ⟨FG, BG, st, lv⟩ := groundX (R := R) B F N hA hf hke
  refine codeC_call (fd := fnOf name qual params body scope dV kV doc pm an cdv ct) (body := body) hroom (X₀.keeps F.keep _ _ ho) rfl hco hgen rfl (codeRec_of (X₀.keeps F.keep) hcd) (hbind _ _ _ _ ?_)
  refine wpAny_newFunctionEnv hcell hloc (fun h₁ hns hsb => ⟨(T.nolimit.keeps F.keep).fresh _ hsb, codeC_func ?_⟩) hk
  have hk₁ : ∀ b o, s.heap.get? b = some o → h₁.get? b = some o := fun b o e => hsb.extBut b o (Nat.ne_of_lt (Heap.lt_size e)) (Heap.get?_push_of_some _ e)
  have e : (fun y => rb.reverse.reverse.lookup y) = chain rb fun _ => none := by
    funext y; rw [List.reverse_reverse, chain_lookup]
  rw [e] at hns
  exact wpC_mono (h _ s.heap.objs.size h₁ _ FG ⟨hns, fun b o e => hk₁ b o (of_hideAll _ e), Nat.le_of_eq (hideAll_size _ _)⟩
    (fun p hp => ⟨hk₁ _ _ (N p hp).1, Nat.ne_of_lt (Heap.lt_size (N p hp).1), hideAll_none _ (List.mem_map_of_mem hp)⟩) BG (X₀.keeps st) (T.keeps st)) (fun fl s' hl => lv _ _ hl) fun _ _ y => y
end

theorem anew_13 : True := by w_top off; trivial
noncomputable abbrev barr (b : Array UInt8) : Obj := { cls := .type "bytearray", data := .bytearray b }
namespace FA
theorem plain_ba : PlainAttrs "bytearray" :=
  ⟨⟨"bytearray.__getattribute__", by rw [typeLookup_type, builtinLookup_eq_fast]; kernel_rfl, by decide +kernel⟩, by rw [typeLookup_type, builtinLookup_eq_fast]; kernel_rfl⟩
theorem owner_ba : Manifest.owners.lookup (String.ofList ['y', 'a', 'r', 'r', 'a', 'e', 't', 'y', 'b'].reverse) = some Manifest.sig_bytearray := by kernel_rfl
theorem slot_len : Slot "bytearray" "__len__" "bytearray.__len__" :=
  .of (owner := "bytearray") (n := "__len__") (by rw [typeLookup_type, builtinLookup_eq_fast]; kernel_rfl) (by decide +kernel) (by decide +kernel) (by decide +kernel)
    (by first | exact .inl (by decide +kernel) | exact .inr (by decide +kernel)) (by rw [isSubtype_type]; kernel_rfl)
theorem entry_len : entryFor table "bytearray.__len__" = some Builtin.«bytearray.__len__» := entryFor_of_tree (by kernel_rfl)
theorem args_len (a : Value) : argsOk "bytearray.__len__" ⟨[a], []⟩ := by
  unfold argsOk; rw [signature?_of (id := "bytearray.__len__") (n := ['_', '_', 'n', 'e', 'l', '_', '_']) (o := ['y', 'a', 'r', 'r', 'a', 'e', 't', 'y', 'b']) (by kernel_rfl) owner_ba]; kernel_rfl
theorem slot_item : Slot "bytearray" "__getitem__" "bytearray.__getitem__" :=
  .of (owner := "bytearray") (n := "__getitem__") (by rw [typeLookup_type, builtinLookup_eq_fast]; kernel_rfl) (by decide +kernel) (by decide +kernel) (by decide +kernel)
    (by first | exact .inl (by decide +kernel) | exact .inr (by decide +kernel)) (by rw [isSubtype_type]; kernel_rfl)
theorem entry_item : entryFor table "bytearray.__getitem__" = some Builtin.«bytearray.__getitem__» := entryFor_of_tree (by kernel_rfl)
theorem args_item (a b : Value) : argsOk "bytearray.__getitem__" ⟨[a, b], []⟩ := by
  unfold argsOk; rw [signature?_of (id := "bytearray.__getitem__") (n := ['_', '_', 'm', 'e', 't', 'i', 't', 'e', 'g', '_', '_']) (o := ['y', 'a', 'r', 'r', 'a', 'e', 't', 'y', 'b']) (by kernel_rfl) owner_ba]; kernel_rfl
theorem slot_ext : Slot "bytearray" "extend" "bytearray.extend" :=
  .of (owner := "bytearray") (n := "extend") (by rw [typeLookup_type, builtinLookup_eq_fast]; kernel_rfl) (by decide +kernel) (by decide +kernel) (by decide +kernel)
    (by first | exact .inl (by decide +kernel) | exact .inr (by decide +kernel)) (by rw [isSubtype_type]; kernel_rfl)
theorem type_ext : typeOf (.builtin "bytearray.extend") = pure (.type "method_descriptor") := by show builtinType _ = _; rw [builtinType_eq_fast]; kernel_rfl
theorem entry_ext : entryFor table "bytearray.extend" = some Builtin.«bytearray.extend» := entryFor_of_tree (by kernel_rfl)
theorem args_ext (a b : Value) : argsOk "bytearray.extend" ⟨[a, b], []⟩ := by
  unfold argsOk; rw [signature?_of (id := "bytearray.extend") (n := ['d', 'n', 'e', 't', 'x', 'e']) (o := ['y', 'a', 'r', 'r', 'a', 'e', 't', 'y', 'b']) (by kernel_rfl) owner_ba]; kernel_rfl
theorem look_buffer : typeLookup (.type "bytearray") "__buffer__" = pure (some (.builtin "bytearray.__buffer__")) := by rw [typeLookup_type, builtinLookup_eq_fast]; kernel_rfl
theorem look_release : typeLookup (.type "bytearray") "__release_buffer__" = pure (some (.builtin "bytearray.__release_buffer__")) := by rw [typeLookup_type, builtinLookup_eq_fast]; kernel_rfl
theorem noBytes : typeLookup (.type "bytearray") "__bytes__" = pure none := by rw [typeLookup_type, builtinLookup_eq_fast]; kernel_rfl
theorem noIndex : typeLookup (.type "bytearray") "__index__" = pure none := by rw [typeLookup_type, builtinLookup_eq_fast]; kernel_rfl
theorem sub_self : isSubtype (.type "bytearray") (.type "bytearray") = pure true := by rw [isSubtype_type]; kernel_rfl
theorem by_bytes : typeLookup (.type "bytes") "__bytes__" = pure (some (.builtin "bytes.__bytes__")) := by rw [typeLookup_type, builtinLookup_eq_fast]; kernel_rfl
end FA
section
variable {prog : Program} {w : World} {A : Around} {E : Value → Shared → Prop} {s : Shared} {a : Addr} {b : Array UInt8}
theorem barr_type (h : s.heap.get? a = some (barr b)) : s.TypeIs (.ref a) "bytearray" := ⟨_, h, rfl⟩
theorem wpAny_payload {M : Model} {Q : Array UInt8 → Shared → Prop} (h : s.heap.get? a = some (barr b)) (q : Q b s) : wpAny M A (Builtin.Bytes.payload (.ref a)) Q E s := by
  unfold Builtin.Bytes.payload Builtin.Bytes.payload?
  refine wpAny_bind (wpAny_bind (wpAny_load h ?_))
  exact wpAny_pure (wpAny_pure q)
theorem len_meets : Meets (Builtin.«bytearray.__len__» ⟨[.ref a], []⟩) (fun _ R s => s.heap.get? a = some (barr b) ∧ R (.ok (.ret (.int b.size s.toks))) { s with toks := s.toks + 1 }) := by
  refine .of_wp fun prog w A R s hs => ?_
  obtain ⟨h, q⟩ := hs
  show wpAny _ _ (Builtin.Bytes.payload (.ref a) >>= fun r => _) _ _ s
  refine wpAny_bind (wpAny_payload h ?_)
  exact wpAny_bind (wpAny_mkInt (wpAny_pure ⟨_, rfl, q⟩))
theorem len_barr {Q : Value → Shared → Prop} (h : s.heap.get? a = some (barr b)) (hfit : b.size ≤ 1099511627776) (q : Q (.int b.size (s.toks + 1)) { s with toks := s.toks + 1 + 1 }) : wpAny (model prog w) A (call (.builtin "len") [.ref a]) Q E s :=
  call_len_slot (barr_type h) FA.slot_len (fun _ q' => call_meets FA.slot_len (barr_type h) FA.entry_len (FA.args_len _) len_meets ⟨h, q'⟩) (by (first | lia | omega)) (by (first | lia | omega)) q
end
section
open Builtin
variable {prog : Program} {w : World} {A : Around} {E : Value → Shared → Prop} {s : Shared} {a : Addr} {b : Array UInt8} {h₀ : Heap} {L : Addr} {m : PySem.Str → Option Value} {news : Led} {Q : Value → Shared → Prop} {value slice : PySem.Expr} {l u : Value} {lo hi : Option Int} {p q i j : Int} {ti tj : Tok}
theorem meets_part (b : Array UInt8) (a r : Addr) {l u : Value} {lo hi : Option Int} (hl : IsPart l lo) (hu : IsPart u hi) :
    Meets («bytearray.__getitem__» ⟨[.ref a, .ref r], []⟩) (fun _ R s => s.heap.get? a = some (barr b) ∧ s.heap.IsSliceOf r l u .none ∧ (KBy.picked b lo hi).size ≤ sizeLine ∧ R (.ok (.ret (.ref s.heap.objs.size))) { s with heap := s.heap.push (barr (KBy.picked b lo hi)) }) := by
  refine .of_wp fun prog w A R s hS => ?_
  obtain ⟨ha, ⟨o, ho, hc, hd⟩, hsz, h⟩ := hS
  have hT : s.TypeIs (.ref r) "slice" := ⟨o, ho, hc⟩
  show wpAny _ _ (Bytes.subscript? (.ref r) >>= fun r => _) _ _ s
  refine wpAny_bind ?_
  unfold Bytes.subscript?
  refine wpAny_bind (wpAny_specialOf hT slice_no_index (wpAny_pure ?_))
  refine wpAny_bind (wpAny_typeOf hT ?_)
  show wpAny _ _ (Bytes.sliceParts (.ref r) >>= fun r => _) _ _ s
  refine wpAny_bind ?_
  unfold Bytes.sliceParts
  refine wpAny_bind (wpAny_field (x := .none) ho hd rfl ?_)
  kby_none
  refine wpAny_ite (KBy.ite_no (show ¬ ((Value.none == rawInt 0) = true) from Bool.false_ne_true) ?_)
  refine wpAny_bind (wpAny_field (x := l) ho hd rfl ?_)
  have go : wpAny (model prog w) A.in1 (sliceIndices (rawPart lo) (rawPart hi) (rawPart none) b.size) (fun r s' => r = sliceBounds lo hi none b.size ∧ s' = s) (fun _ _ => False) s :=
    wpAny_of_eq (sliceIndices_raw lo hi none b.size (fun e => nomatch e)) ⟨rfl, rfl⟩
  cases hl <;> cases hu <;> (first
    | (kby_none; (refine wpAny_bind (wpAny_field (x := .none) ho hd rfl ?_)); kby_none)
    | (kby_none; (refine wpAny_bind (wpAny_field (x := .int _ _) ho hd rfl ?_)); kby_int)
    | (kby_int; (refine wpAny_bind (wpAny_field (x := .none) ho hd rfl ?_)); kby_none)
    | (kby_int; (refine wpAny_bind (wpAny_field (x := .int _ _) ho hd rfl ?_)); kby_int)) <;> refine wpAny_pure ?_
  all_goals
    refine wpAny_bind (wpAny_payload ha ?_)
    refine wpAny_bind (wpAny_mono go (fun r s' hr => ?_) fun _ _ e => e.elim)
    obtain ⟨rfl, rfl⟩ := hr
    refine wpAny_bind ?_
    unfold Bytes.newBytearray
    exact wpAny_newObj_type (wpAny_pure ⟨_, rfl, h⟩) hsz
theorem tail_ba {r : Addr} (h : wpAny (model prog w) A (getItem (.ref a) (.ref r)) Q E s) (hT : s.TypeIs (.ref a) "bytearray")
    (hs : subscripted slice false (.ref a) (.ref r) = operate [.ref r, .ref a] (getItem (.ref a) (.ref r))) : wpAny (model prog w) A (subscriptTail value slice (.ref a) (.ref r)) Q E s := by
  unfold subscriptTail
  refine wpAny_bind ?_
  rw [getitemInPython_of_ne hT.not_modules]
  refine wpAny_bind (wpAny_specialOf hT FA.slot_item.lookup ?_)
  have fin : wpAny (model prog w) A (subscripted slice false (.ref a) (.ref r)) (fun x s₃ => wpAny (model prog w) A (letTemporaryGo value (.ref a) x >>= fun _ => pure x) Q E s₃) E s := by
    rw [hs]
    exact wpAny_operating (wpAny_mono h (fun r s₃ h₃ => wpAny_bind (wpAny_letTemporaryGo (wpAny_pure h₃))) fun _ _ x => x)
  first
    | exact wpAny_pure (wpAny_bind fin)
    | exact wpAny_bind (wpAny_pure (wpAny_bind fin))
    | exact wpAny_bind fin
theorem slice_A (hF : Fr h₀ L s.heap m) (hN : News h₀ L s.heap news) (hm : (a, barr b) ∈ news) (hl : IsPart l lo) (hu : IsPart u hi) (hz : b.size ≤ 16777216)
    (h : ∀ D h', Fr h₀ L h' m → News h₀ L h' ((D, barr (KBy.picked b lo hi)) :: news) → (∀ p ∈ news, p.1 < D) → Q (.ref D) { s with heap := h' })
    (hs : subscripted slice false (.ref a) (.ref s.heap.objs.size) = operate [.ref s.heap.objs.size, .ref a] (getItem (.ref a) (.ref s.heap.objs.size)) := by with_unfolding_all rfl) :
    wpAny (model prog w) A (subscriptTail value slice (.ref a) (.ref s.heap.objs.size)) Q E { s with heap := s.heap.push { cls := .type "slice", data := .fields #[l, u, .none] } } := by
  have ha := Heap.get?_push_of_some ({ cls := .type "slice", data := .fields #[l, u, .none] } : Obj) (hN _ hm).1
  have hT : ({ s with heap := s.heap.push { cls := .type "slice", data := .fields #[l, u, .none] } } : Shared).TypeIs (.ref a) "bytearray" := ⟨_, ha, rfl⟩
  refine tail_ba (getItem_meets hT (by decide) FA.slot_item FA.entry_item (FA.args_item _ _) (meets_part b a _ hl hu) ⟨ha, Heap.IsSliceOf.new _ _ _ _, Nat.le_trans (KBc.size_picked_le b lo hi) (by rw [sizeLine_eq]; exact hz), ?_⟩) hT hs
  exact h _ _ ((hF.push _).push _) (News.push (hF.push _) (News.pushKeep hN _) _) fun p hp => Nat.lt_trans (Heap.lt_size (hN p hp).1) (by rw [Heap.size_push]; exact Nat.lt_succ_self _)
theorem slice_A_hi (hF : Fr h₀ L s.heap m) (hN : News h₀ L s.heap news) (hm : (a, barr (octs p q)) ∈ news) (hz : q ≤ 16777216 ∧ 0 ≤ p ∧ 0 ≤ j)
    (h : ∀ D h', Fr h₀ L h' m → News h₀ L h' ((D, barr (octs p (min q (p + j)))) :: news) → (∀ p ∈ news, p.1 < D) → Q (.ref D) { s with heap := h' })
    (hs : subscripted slice false (.ref a) (.ref s.heap.objs.size) = operate [.ref s.heap.objs.size, .ref a] (getItem (.ref a) (.ref s.heap.objs.size)) := by with_unfolding_all rfl) :
    wpAny (model prog w) A (subscriptTail value slice (.ref a) (.ref s.heap.objs.size)) Q E { s with heap := s.heap.push { cls := .type "slice", data := .fields #[.none, .int j tj, .none] } } :=
  slice_A hF hN hm .none (.int j tj) (by rw [octs_size]; (first | lia | omega)) (fun D h' F' N' l => h D h' F' (by rw [picked_hi hz.2.2] at N'; exact N') l) hs
theorem slice_A_lo (hF : Fr h₀ L s.heap m) (hN : News h₀ L s.heap news) (hm : (a, barr (octs p q)) ∈ news) (hz : q ≤ 16777216 ∧ 0 ≤ p ∧ 0 ≤ i)
    (h : ∀ D h', Fr h₀ L h' m → News h₀ L h' ((D, barr (octs (p + i) q)) :: news) → (∀ p ∈ news, p.1 < D) → Q (.ref D) { s with heap := h' })
    (hs : subscripted slice false (.ref a) (.ref s.heap.objs.size) = operate [.ref s.heap.objs.size, .ref a] (getItem (.ref a) (.ref s.heap.objs.size)) := by with_unfolding_all rfl) :
    wpAny (model prog w) A (subscriptTail value slice (.ref a) (.ref s.heap.objs.size)) Q E { s with heap := s.heap.push { cls := .type "slice", data := .fields #[.int i ti, .none, .none] } } :=
  slice_A hF hN hm (.int i ti) .none (by rw [octs_size]; (first | lia | omega)) (fun D h' F' N' l => h D h' F' (by rw [picked_lo hz.2.1 hz.2.2] at N'; exact N') l) hs
theorem len_A (hN : News h₀ L s.heap news) (hm : (a, barr (octs p q)) ∈ news) (hq : 0 ≤ p ∧ p ≤ q ∧ q ≤ 16777216) (h : ∀ t k, Q (.int (q - p) t) { s with toks := k }) : wpAny (model prog w) A (call (.builtin "len") [.ref a]) Q E s :=
  len_barr (hN _ hm).1 (by rw [octs_size]; (first | lia | omega)) (by rw [octs_size, show (((q - p).toNat : Nat) : Int) = q - p by (first | lia | omega)]; exact h _ _)
end
section
open Builtin
variable {prog : Program} {w : World} {A : Around} {E : Value → Shared → Prop} {s : Shared} {a : Addr} {b : Array UInt8} {t : Tok} {h₀ : Heap} {L : Addr} {m : PySem.Str → Option Value} {news : Led} {Q : Value → Shared → Prop} {p q : Int}
theorem own_buf (h : s.heap.get? a = some (barr b)) {q : Bool → Shared → Prop} (hq : q true s) : wpAny (model prog w) A (Bytes.slotIsOwn (.ref a) "__buffer__") q E s := by
  unfold Bytes.slotIsOwn
  refine wpAny_bind (wpAny_specialOf (barr_type h) FA.look_buffer ?_)
  dsimp only
  split
  · rename_i hx
    exact absurd hx (by decide +kernel)
  · have e : ("bytearray.__buffer__".dropRight ("__buffer__".length + 1)) = "bytearray" := by decide +kernel
    rw [e]
    exact wpAny_isInstance (barr_type h) FA.sub_self hq
theorem own_rel (h : s.heap.get? a = some (barr b)) {q : Bool → Shared → Prop} (hq : q false s) : wpAny (model prog w) A (Bytes.ownRelease (.ref a)) q E s := by
  unfold Bytes.ownRelease Bytes.slotIsOwn
  refine wpAny_bind ?_
  refine wpAny_bind (wpAny_specialOf (barr_type h) FA.look_release ?_)
  dsimp only
  split
  · rename_i hx
    exact absurd hx (by decide +kernel)
  · have e : ("bytearray.__release_buffer__".dropRight ("__release_buffer__".length + 1)) = "bytearray" := by decide +kernel
    rw [e]
    exact wpAny_isInstance (barr_type h) FA.sub_self (wpAny_pure hq)
theorem buffer_ba {id : String} {full : Bool} (h : s.heap.get? a = some (barr b)) {q : Option (Array UInt8) → Shared → Prop} (hq : q (some b) s) : wpAny (model prog w) A (Bytes.buffer? id (.ref a) full) q E s := by
  unfold Bytes.buffer?
  refine wpAny_bind (wpAny_specialOf (barr_type h) FA.look_buffer ?_)
  refine wpAny_bind (own_buf h ?_)
  refine bm_if_false rfl ?_
  refine wpAny_bind (wpAny_specialOf (barr_type h) FA.look_buffer ?_)
  dsimp only
  refine wpAny_bind (own_rel h ?_)
  refine bm_if_false rfl ?_
  exact wpAny_bind (wpAny_payload h (wpAny_pure hq))
theorem new_barr (h : s.heap.get? a = some (barr b)) (hz : b.size ≤ sizeLine) (hQ : ∀ k, Q (.bytes b s.toks) { s with toks := k }) : codeAny (model prog w) A (.call (.builtin "bytes.__new__") ⟨[.type "bytes", .ref a], []⟩) (wants Q E) s := by
  refine codeAny_of_tree ?_
  show wpAny _ A.in1 (do checkBuiltinCall "bytes.__new__" ⟨[.type "bytes", .ref a], []⟩; again (.builtin "bytes.__new__" ⟨[.type "bytes", .ref a], []⟩)) _ _ s
  refine wpAny_bind (wpAny_of_eq (F.bm_newCall _) (wpAny_pure ⟨plainId_quiet F.bm_plain _, codeAny_builtin F.bm_entry ?_⟩))
  rw [Around.under_plainId F.bm_plain _]
  have hT := barr_type h
  unfold Builtin.«bytes.__new__»
  refine wpAny_bind (wpAny_of_eq (a := true) rfl (bm_if_false rfl ?_))
  refine wpAny_bind (wpAny_of_eq F.bm_sub (bm_if_false rfl ?_))
  refine wpAny_bind (wpAny_of_eq (F.bm_bind _) ?_)
  refine wpAny_bind (wpAny_of_eq (a := ()) rfl ?_)
  refine wpAny_bind (wpAny_of_eq (a := ()) rfl (bm_if_false rfl ?_))
  refine wpAny_bind (wpAny_specialOf hT FA.noBytes ?_)
  refine wpAny_bind (wpAny_bind ?_)
  show wpAny _ _ (load a >>= _) _ _ _
  refine wpAny_bind (wpAny_load h (wpAny_pure (wpAny_pure (bm_if_false rfl ?_))))
  refine wpAny_bind (wpAny_specialOf hT FA.noIndex (bm_if_true rfl ?_))
  first
    | show wpAny _ _ (Builtin.Bytes.buffer? "bytes.__new__" (.ref a) true >>= _) _ _ _
    | (refine wpAny_bind ?_; show wpAny _ _ (Builtin.Bytes.buffer? "bytes.__new__" (.ref a) true >>= _) _ _ _)
  refine wpAny_bind (buffer_ba h ?_)
  dsimp only
  refine wpAny_bind (wpAny_rule ?_)
  refine wpAny_bind (wpAny_mkBytes ?_ hz)
  show wpAny _ _ (if (Value.type "bytes" == Value.type "bytes") = true then _ else _) _ _ _
  refine bm_if_true (by decide) ?_
  first
    | exact wpAny_pure (hQ _)
    | exact wpAny_bind (wpAny_pure (wpAny_pure (hQ _)))
theorem bytes_barr (h : s.heap.get? a = some (barr b)) (hz : b.size ≤ sizeLine) (hQ : ∀ k, Q (.bytes b s.toks) { s with toks := k }) : wpAny (model prog w) A (call (.type "bytes") [.ref a]) Q E s := by
  refine callType_codes (Q₁ := fun obj s₁ => s₁.TypeIs obj "bytes" ∧ Q obj s₁) F.bm_called (F.bm_typeCall _) F.entry_object_init
    (new_barr h hz fun k => ⟨PySem.W.typeIs_bytes _ _ _, hQ k⟩) fun obj s₁ h₁ => ?_
  exact ⟨h₁.1, F.args_object_init_2 obj _, object_init_meets F.bm_called.init.lookup F.bm_called.made (by decide) prog w A.in1 _ s₁ ⟨h₁.1, rfl, h₁.2⟩⟩
theorem new_bytes (hQ : Q (.bytes b t) s) : codeAny (model prog w) A (.call (.builtin "bytes.__new__") ⟨[.type "bytes", .bytes b t], []⟩) (wants Q E) s := by
  refine codeAny_of_tree ?_
  show wpAny _ A.in1 (do checkBuiltinCall "bytes.__new__" ⟨[.type "bytes", .bytes b t], []⟩; again (.builtin "bytes.__new__" ⟨[.type "bytes", .bytes b t], []⟩)) _ _ s
  refine wpAny_bind (wpAny_of_eq (F.bm_newCall _) (wpAny_pure ⟨plainId_quiet F.bm_plain _, codeAny_builtin F.bm_entry ?_⟩))
  rw [Around.under_plainId F.bm_plain _]
  have hT := typeIs_bytes s b t
  unfold Builtin.«bytes.__new__»
  refine wpAny_bind (wpAny_of_eq (a := true) rfl (bm_if_false rfl ?_))
  refine wpAny_bind (wpAny_of_eq F.bm_sub (bm_if_false rfl ?_))
  refine wpAny_bind (wpAny_of_eq (F.bm_bind _) ?_)
  refine wpAny_bind (wpAny_of_eq (a := ()) rfl ?_)
  refine wpAny_bind (wpAny_of_eq (a := ()) rfl (bm_if_false rfl ?_))
  refine wpAny_bind (wpAny_specialOf hT FA.by_bytes ?_)
  dsimp only
  refine wpAny_bind (wpAny_rule ?_)
  refine wpAny_bind (wpAny_typeOf hT (bm_if_true (by decide) ?_))
  show wpAny _ _ (if (Value.type "bytes" == Value.type "bytes") = true then _ else _) _ _ _
  refine bm_if_true (by decide) ?_
  first
    | exact wpAny_pure hQ
    | exact wpAny_bind (wpAny_pure (wpAny_pure hQ))
theorem bytes_bytes (hQ : Q (.bytes b t) s) : wpAny (model prog w) A (call (.type "bytes") [.bytes b t]) Q E s := by
  refine callType_codes (Q₁ := fun obj s₁ => s₁.TypeIs obj "bytes" ∧ Q obj s₁) F.bm_called (F.bm_typeCall _) F.entry_object_init
    (new_bytes ⟨PySem.W.typeIs_bytes _ _ _, hQ⟩) fun obj s₁ h₁ => ?_
  exact ⟨h₁.1, F.args_object_init_2 obj _, object_init_meets F.bm_called.init.lookup F.bm_called.made (by decide) prog w A.in1 _ s₁ ⟨h₁.1, rfl, h₁.2⟩⟩
theorem bytes_A (hN : News h₀ L s.heap news) (hm : (a, barr (octs p q)) ∈ news) (hq : q ≤ 16777216 ∧ 0 ≤ p) (h : ∀ t k, Q (.bytes (octs p q) t) { s with toks := k }) : wpAny (model prog w) A (call (.type "bytes") [.ref a]) Q E s :=
  bytes_barr (hN _ hm).1 (by rw [octs_size, sizeLine_eq]; (first | lia | omega)) fun k => h _ _
end
theorem say_13_1 : True := by
  k_with "call type:bytes" => ((k_here; first | ((with_reducible show wpAny _ _ (call (Value.type "bytes") [Value.bytes _ _]) _ _ _); refine bytes_bytes ?_) | ((with_reducible show wpAny _ _ (call (Value.type "bytes") [Value.ref _]) _ _ _); (with_reducible rename News _ _ _ _ => NZ'); refine' bytes_A NZ' ?hm ?hq ?_; (case hm => k_mem); (case hq => walk_at "mine om"); intro tZ' kZ')))
  trivial
theorem say_13_2 : True := by
  k_with "call builtin:len" => ((k_here; (with_reducible show wpAny _ _ (call (Value.builtin "len") [Value.ref _]) _ _ _); (with_reducible rename News _ _ _ _ => NZ'); (refine' len_A NZ' ?hm ?hq ?_; (case hm => k_mem); (case hq => walk_at "mine om")); intro tZ' kZ'))
  trivial
theorem say_13_3 : True := by
  k_with "subscriptTail" => ((k_here; (with_reducible show wpAny _ _ (subscriptTail _ (PySem.Expr.Slice _ _ none _) (Value.ref _) (Value.ref _)) _ _ _); (with_reducible rename Fr _ _ _ _ => FZ'); (with_reducible rename News _ _ _ _ => NZ'); (first | (refine' slice_A_lo (s := ⟨_, _, _, _, _⟩) FZ' NZ' ?hm ?hz ?_; (case hm => k_mem); (case hz => walk_at "mine om")) | (refine' slice_A_hi (s := ⟨_, _, _, _, _⟩) FZ' NZ' ?hm ?hz ?_; (case hm => k_mem); (case hz => walk_at "mine om"))); intro DZ' hZ' FZ' NZ' l1Z; (try k_lt l1Z); (try k_sweep)))
  trivial

theorem anew_14 : True := by w_top off; trivial
section
variable {prog : Program} {w : World} {A : Around} {E : Value → Shared → Prop} {s : Shared} {a : Addr} {b c : Array UInt8} {t : Tok} {h₀ : Heap} {L : Addr} {m : PySem.Str → Option Value} {news : Led} {Q : Value → Shared → Prop} {R : Result → Shared → Prop} {p q r : Int}
open Builtin
theorem notBad {id x : String} (h : id ∉ ["bytearray.__contains__", "bytearray.__mod__", "bytearray.__rmod__", "_struct.pack_into.held", "bytearray.find.held"]) (hx : x ∈ ["bytearray.__contains__", "bytearray.__mod__", "bytearray.__rmod__", "_struct.pack_into.held", "bytearray.find.held"]) : id ≠ x := fun e => h (e ▸ hx)
theorem wpC_exported {M : Model} {v : Value} {Q : Bool → Shared → Prop} (h : Q false s) : wpC M A (Bytes.exported v) Q E s := fun Γ p hΓ hc => by
  unfold Bytes.exported
  have key : ∀ q ∈ ((Γ.code, p) :: Γ.below), badC q.1 = false := by
    intro q hq
    rcases List.mem_cons.mp hq with rfl | hq
    · exact hc.1
    · exact hc.2 q hq
  show Q (List.any ((Γ.code, p) :: Γ.below) _) s
  have : ∀ f : Code × Pos → Bool, (∀ q, badC q.1 = false → f q = false) → List.any ((Γ.code, p) :: Γ.below) f = false := by
    intro f hf
    rw [List.any_eq_false]
    intro q hq
    rw [hf q (key q hq)]
    exact Bool.false_ne_true
  rw [this]
  · exact h
  · rintro ⟨c, p'⟩ hb
    dsimp only at hb ⊢
    cases c with
    | builtin id args =>
      have hb' : badIds.contains id = false := hb
      unfold badIds at hb'
      rw [List.contains_eq_mem, decide_eq_false_iff_not, List.mem_append, not_or] at hb'
      have n1 := notBad hb'.1 (x := "bytearray.__contains__") (.head _)
      have n2 := notBad hb'.1 (x := "bytearray.__mod__") (.tail _ (.head _))
      have n3 := notBad hb'.1 (x := "bytearray.__rmod__") (.tail _ (.tail _ (.head _)))
      have n4 := notBad hb'.1 (x := "_struct.pack_into.held") (.tail _ (.tail _ (.tail _ (.head _))))
      have n5 := notBad hb'.1 (x := "bytearray.find.held") (.tail _ (.tail _ (.tail _ (.tail _ (.head _)))))
      have last : ∀ b : Bool, (b && Bytes.decodersThatHold.contains id) = false := fun b => by
        rw [Bool.and_eq_false_iff]
        exact .inr (by rw [List.contains_eq_mem, decide_eq_false_iff_not]; exact hb'.2)
      obtain ⟨pos, kw⟩ := args
      delta Bytes.exported.match_1 Bytes.exported._sparseCasesOn_1
      dsimp only
      rw [dif_neg n1, dif_neg n2, dif_neg n3, dif_neg n4, dif_neg n5]
      cases pos with
      | nil => rfl
      | cons v r => exact last _
    | _ => rfl
end
section
variable {prog : Program} {w : World} {A : Around} {E : Value → Shared → Prop} {s : Shared} {a : Addr} {b c : Array UInt8} {t : Tok} {h₀ : Heap} {L : Addr} {m : PySem.Str → Option Value} {news news' : Led} {Q : Value → Shared → Prop} {R : Result → Shared → Prop} {p q r : Int}
open Builtin
theorem codeC_builtin {id : String} {args : Args} {B : Builtin} (hp : plainId id = true) (hbad : badC (.builtin id args) = false) (hb : entryFor table id = some B)
    (hck : wpAny (model prog w) A.in1 (checkBuiltinCall id args) (fun _ s₁ => wpC (model prog w) A.in1 (B args)
      (fun fin s' => match fin with | .done f => R (.ok f) s' | .again c' => c'.quiet = true ∧ codeC (model prog w) A c' R s') (fun e s' => R (.error e) s') s₁) (fun e s' => R (.error e) s') s) : codeC (model prog w) A (.call (.builtin id) args) R s := by
  refine codeC_treeA rfl ?_
  show wpAny _ A.in1 (do checkBuiltinCall id args; again (.builtin id args)) _ _ s
  refine wpAny_bind (wpAny_mono hck (fun _ s₁ h₁ => wpAny_pure ⟨plainId_quiet hp _, codeC_tree hbad ?_⟩) fun _ _ x => x)
  rw [Around.under_plainId hp]
  show wpC _ _ (match entryFor table id with | some b => b args | none => unsupported ((withoutEnding? id "#data").getD id)) _ _ s₁
  rw [hb]
  exact h₁
theorem wpC_checkResize {Q : Unit → Shared → Prop} (h : s.heap.get? a = some (barr b)) (q : Q () s) : wpC (model prog w) A (Bytes.checkResize (.ref a)) Q E s := by
  unfold Bytes.checkResize
  refine wpC_bind ?_
  refine wpC_bind (wpC_exported ?_)
  refine wpC_bindA (m := Bytes.exportsOf (.ref a)) ?_ 
  unfold Bytes.exportsOf
  refine wpAny_bind (wpAny_load h (wpAny_pure ?_))
  exact wpC_pure (wpC_pure q)
theorem wpAny_write {f : Array UInt8 → Array UInt8} {Q : Unit → Shared → Prop} (h : s.heap.get? a = some (barr b)) (hz : (f b).size ≤ sizeLine) (q : Q () { s with heap := s.heap.update a (Obj.mapBytearray f) }) : wpAny (model prog w) A (Bytes.write (.ref a) f) Q E s := by
  show wpAny _ _ (updateBytearray a f) _ _ _
  unfold updateBytearray
  refine wpAny_bind (wpAny_load h ?_)
  show wpAny _ _ (update a (Obj.mapBytearray f) >>= fun _ => lookBehind a) _ _ _
  refine wpAny_bind (wpAny_update h ?_)
  refine wpAny_lookBehind (Heap.get?_update_self (Obj.mapBytearray f) h rfl) ?_ q
  show (if (f b).size > sizeLine then some "bytearray:memory" else none) = none
  rw [if_neg (Nat.not_lt.mpr hz)]
theorem extend_wp (h : s.heap.get? a = some (barr b)) (hz : b.size + c.size ≤ sizeLine) {K : Fin → Shared → Prop}
    (q : K (.done (.ret .none)) { s with heap := s.heap.update a (Obj.mapBytearray (· ++ c)) }) :
    wpC (model prog w) A (Builtin.«bytearray.extend» ⟨[.ref a, .bytes c t], []⟩) K E s := by
  unfold Builtin.«bytearray.extend»
  refine wpC_bindA (wpAny_pure (a := (Value.ref a, Value.bytes c t)) ?_)
  refine wpC_bindA (wpAny_specialOf (typeIs_bytes s c t) KBy.look_buffer ?_)
  show wpC _ _ (rule _ >>= _) _ _ _
  refine wpC_bindA (wpAny_rule ?_)
  refine wpC_bindA (wpAny_payload h ?_)
  refine wpC_bindA (m := Bytes.takeBufferQuiet? "bytearray.extend" (.bytes c t) 0) ?_
  unfold Bytes.takeBufferQuiet?
  have e : Bytes.takeBuffer? "bytearray.extend" (.bytes c t) 0 = pure (some (c, none)) := by
    unfold Bytes.takeBuffer?
    rw [KBy.special_eq KBy.look_buffer, KBy.own_buffer]
    simp only [pure_bind]
    rw [show ((0 : Int) == Bytes.fullReadOnly) = false from by decide, KBy.buffer_eq]
    rfl
  rw [e]
  refine wpAny_bind (m := (pure (some (c, (none : Option Value))) : Sem _).attempt) (wpAny_of_eq rfl (wpAny_pure ?_))
  dsimp only
  rw [if_pos (show Option.isNone (none : Option Value) = true from rfl)]
  first
    | show wpC _ _ (if (!c.isEmpty) = true then _ else _) _ _ _
    | (refine wpC_bind ?_; show wpC _ _ (if (!c.isEmpty) = true then _ else _) _ _ _)
  by_cases hc : (!c.isEmpty) = true
  · rw [if_pos hc]
    refine wpC_bind (wpC_checkResize h ?_)
    refine wpC_bindA (wpAny_write h (by show (b ++ c).size ≤ _; rw [Array.size_append]; exact hz) ?_)
    exact wpC_pure q
  · rw [if_neg hc]
    refine wpC_bindA (wpAny_write h (by show (b ++ c).size ≤ _; rw [Array.size_append]; exact hz) ?_)
    exact wpC_pure q
end
section
variable {prog : Program} {w : World} {A : Around} {E : Value → Shared → Prop} {s : Shared} {a : Addr} {b c : Array UInt8} {t : Tok} {h₀ : Heap} {L : Addr} {m : PySem.Str → Option Value} {news news' : Led} {Q : Value → Shared → Prop} {R : Result → Shared → Prop} {p q r : Int}
open Builtin
theorem call_extend (F : Fr h₀ L s.heap m) (N : News h₀ L s.heap news) (U : Upd a (barr b) (barr (b ++ c)) news news') (hz : b.size + c.size ≤ sizeLine) (h : ∀ h', Fr h₀ L h' m → News h₀ L h' news' → Q .none { s with heap := h' }) :
    wpC (model prog w) A (call (.builtin "bytearray.extend") [.ref a, .bytes c t]) Q E s := by
  obtain ⟨pre, post, rfl, rfl, a1, a2⟩ := U.split
  have z := N (a, barr b) (List.mem_append.mpr (.inr (.head _)))
  refine wpC_call (codeC_builtin FA.slot_ext.plain (by show badIds.contains "bytearray.extend" = false; decide +kernel) FA.entry_ext (FA.slot_ext.check _ _ _ _ _ _ _ _ (barr_type z.1) (FA.args_ext _ _) (extend_wp z.1 hz ?_)))
  have hs : Heap.SameBut a s.heap (s.heap.update a (Obj.mapBytearray (· ++ c))) := Heap.SameBut.update ..
  exact h _ (F.change hs z.2.1 z.2.2) (news_set N a1 a2 hs (Heap.get?_update_self (Obj.mapBytearray (· ++ c)) z.1 rfl))
namespace FA
theorem mro_ba : mroOf (.type "bytearray") = pure [.type "bytearray", .type "object"] := by rw [mroOf_type]; kernel_rfl
theorem look_new : typeLookup (.type "bytearray") "__new__" = pure (some (.builtin "bytearray.__new__")) := by rw [typeLookup_type, builtinLookup_eq_fast]; kernel_rfl
theorem slot_init : Slot "bytearray" "__init__" "bytearray.__init__" :=
  .of (owner := "bytearray") (n := "__init__") (by rw [typeLookup_type, builtinLookup_eq_fast]; kernel_rfl) (by decide +kernel) (by decide +kernel) (by decide +kernel)
    (by first | exact .inl (by decide +kernel) | exact .inr (by decide +kernel)) (by rw [isSubtype_type]; kernel_rfl)
theorem called : TypeCalled "bytearray" "bytearray.__new__" "bytearray.__init__" :=
  ⟨by decide +kernel, by decide +kernel, ⟨_, _, mro_ba⟩, madeBy_type mro_ba look_new (by decide +kernel), by decide +kernel, by rw [isSubtype_type]; kernel_rfl, slot_init⟩
theorem typeCall : checkTypeCall "bytearray" ⟨[], []⟩ = pure () := by kernel_rfl
theorem newCall : checkBuiltinCall "bytearray.__new__" ⟨[.type "bytearray"], []⟩ = pure () := by kernel_rfl
theorem entry_new : entryFor table "bytearray.__new__" = some Builtin.«list.__new__» :=
  entryFor_alias (id' := "list.__new__") (by rw [fastTable_eq_tree]; kernel_rfl) (by decide +kernel) (by decide +kernel) (by rw [fastTable_eq_tree]; kernel_rfl)
theorem entry_init : entryFor table "bytearray.__init__" = some Builtin.«bytearray.__init__» := entryFor_of_tree (by kernel_rfl)
theorem args_init (a : Value) : argsOk "bytearray.__init__" ⟨[a], []⟩ := by
  unfold argsOk; rw [signature?_of (id := "bytearray.__init__") (n := ['_', '_', 't', 'i', 'n', 'i', '_', '_']) (o := ['y', 'a', 'r', 'r', 'a', 'e', 't', 'y', 'b']) (by kernel_rfl) owner_ba]; kernel_rfl
theorem bind0 : Bytes.bindOptional "bytearray.__init__" "bytearray" ["source", "encoding", "errors"] [] [] = pure [none, none, none] := by kernel_rfl
set_option maxRecDepth 1000000 in
set_option maxHeartbeats 4000000 in
theorem owner_new : ("bytearray.__new__".splitOn ".__new__").headD "" = "bytearray" := by simp +decide [String.splitOn, String.splitOnAux]
end FA
theorem new_ba {Q₁ : Value → Shared → Prop} (h : Q₁ (.ref s.heap.objs.size) { s with heap := s.heap.push (barr #[]) }) :
    codeAny (model prog w) A (.call (.builtin "bytearray.__new__") ⟨[.type "bytearray"], []⟩) (wants Q₁ E) s := by
  refine codeAny_of_tree ?_
  show wpAny _ A.in1 (do checkBuiltinCall "bytearray.__new__" ⟨[.type "bytearray"], []⟩; again (.builtin "bytearray.__new__" ⟨[.type "bytearray"], []⟩)) _ _ s
  refine wpAny_bind (wpAny_of_eq FA.newCall (wpAny_pure ⟨plainId_quiet FA.called.plain _, codeAny_builtin_stack FA.entry_new rfl fun p st => ?_⟩))
  rw [Around.under_plainId FA.called.plain _]
  have hsub := FA.sub_self
  have hown := FA.owner_new
  obtain ⟨hp, g, d, tk, os⟩ := s
  simp only [hown]
  wp_walk
  exact h
theorem init_ba {K : Fin → Shared → Prop} (h : s.heap.get? a = some (barr #[])) (q : K (.done (.ret .none)) { s with heap := s.heap.update a (Obj.mapBytearray fun _ => #[]) }) :
    wpC (model prog w) A (Builtin.«bytearray.__init__» ⟨[.ref a], []⟩) K E s := by
  unfold Builtin.«bytearray.__init__»
  refine wpC_bindA (own_rel h ?_)
  show wpC _ _ (Bytes.bindOptional "bytearray.__init__" "bytearray" ["source", "encoding", "errors"] [] [] >>= _) _ _ _
  refine wpC_bindA (wpAny_of_eq FA.bind0 ?_)
  refine wpC_bindA (wpAny_of_eq (a := ()) rfl ?_)
  refine wpC_bindA (wpAny_of_eq (a := ()) rfl ?_)
  refine wpC_bind ?_
  refine wpC_bind (wpC_exported ?_)
  refine wpC_bindA (m := Bytes.exportsOf (.ref a)) ?_
  unfold Bytes.exportsOf
  refine wpAny_bind (wpAny_load h (wpAny_pure ?_))
  refine wpC_pure ?_
  show wpC _ _ (Bytes.write (.ref a) (fun _ => #[]) >>= _) _ _ _
  refine wpC_bindA (wpAny_write h (Nat.zero_le _) ?_)
  exact wpC_pure q
end
section
variable {prog : Program} {w : World} {A : Around} {E : Value → Shared → Prop} {s : Shared} {a : Addr} {b c : Array UInt8} {t : Tok} {h₀ : Heap} {L : Addr} {m : PySem.Str → Option Value} {news news' : Led} {Q : Value → Shared → Prop} {R : Result → Shared → Prop} {p q r : Int}
open Builtin
theorem codeC_entry {id : String} {args : Args} {B : Builtin} (hbad : badC (.builtin id args) = false) (hb : entryFor table id = some B)
    (h : wpC (model prog w) (A.under (.builtin id args)) (B args) (fun fin s' => match fin with | .done f => R (.ok f) s' | .again c' => c'.quiet = true ∧ codeC (model prog w) A c' R s') (fun e s' => R (.error e) s') s) : codeC (model prog w) A (.builtin id args) R s := by
  refine codeC_tree hbad ?_
  show wpC _ _ (match entryFor table id with | some b => b args | none => unsupported ((withoutEnding? id "#data").getD id)) _ _ s
  rw [hb]
  exact h
theorem make_ba (F : Fr h₀ L s.heap m) (N : News h₀ L s.heap news) (h : ∀ D h', Fr h₀ L h' m → News h₀ L h' ((D, barr #[]) :: news) → (∀ p ∈ news, p.1 < D) → Q (.ref D) { s with heap := h' }) :
    wpC (model prog w) A (call (.type "bytearray") []) Q E s := by
  refine wpC_call (codeC_tree rfl ?_)
  show wpC _ _ (callAny (.type "bytearray") _) _ _ _
  refine wpC_pure ⟨Code.quiet_builtin _ (by decide +kernel), codeC_entry (by show badIds.contains "type.__call__" = false; decide +kernel) PySem.F.entry_type_call ?_⟩
  rw [Around.under_plain (weight_type_call_type "bytearray" [] []) rfl]
  unfold Builtin.«type.__call__»
  dsimp only
  rw [if_neg (by rw [FA.called.notType]; exact Bool.false_ne_true)]
  rw [if_neg (by rw [FA.called.canCreate]; exact Bool.false_ne_true)]
  refine wpC_bindA (wpAny_of_eq FA.typeCall ?_)
  refine wpC_bindA (wpAny_of_eq FA.mro_ba ?_)
  rw [if_neg (by exact Bool.false_ne_true)]
  refine wpC_bindA (wpAny_of_eq FA.called.made ?_)
  dsimp only
  refine wpC_bindA (wpAny_pure ?_)
  refine wpC_bindA (wpAny_holding (wpAny_call (new_ba ?_)))
  have hb : ({ s with heap := s.heap.push (barr #[]) } : Shared).heap.get? s.heap.objs.size = some (barr #[]) := Heap.get?_push_size _ rfl
  have hT := barr_type hb
  refine wpC_bindA (wpAny_isInstance hT FA.sub_self ?_)
  rw [if_neg (by exact Bool.false_ne_true)]
  refine wpC_bind (wpC_holding ?_)
  unfold callSpecial?
  refine wpC_bindA (wpAny_specialOf hT FA.slot_init.lookup ?_)
  dsimp only
  refine wpC_holding ?_
  refine wpC_bindA (wpAny_of_eq (FA.slot_init.bind _) ?_)
  refine wpC_bind (wpC_call (codeC_builtin FA.slot_init.plain (by show badIds.contains "bytearray.__init__" = false; decide +kernel) FA.entry_init (FA.slot_init.check _ _ _ _ _ _ _ _ hT (FA.args_init _) (init_ba hb ?_))))
  refine wpC_pure ?_
  dsimp only
  rw [if_neg (by decide)]
  refine wpC_pure ?_
  have hs : Heap.SameBut s.heap.objs.size (s.heap.push (barr #[])) ((s.heap.push (barr #[])).update s.heap.objs.size (Obj.mapBytearray fun _ => #[])) := Heap.SameBut.update ..
  have N1 := N.push F (barr #[])
  have z := N1 (s.heap.objs.size, barr #[]) (.head _)
  refine h _ _ ((F.push _).change hs z.2.1 z.2.2) (news_set (pre := []) N1 (fun _ hp => nomatch hp) (fun p hp => Nat.ne_of_lt (Heap.lt_size (N p hp).1)) hs (Heap.get?_update_self (Obj.mapBytearray fun _ => #[]) z.1 rfl)) fun p hp => Heap.lt_size (N p hp).1
end

theorem anew_15 : True := by w_top off; trivial
/-! The path at clean stacks: statements whose value comes of a call that may reach a bytearray -/
noncomputable def noE : Value → Shared → Prop := fun _ _ => False
section
variable {M : Model} {A : Around} {E : Value → Shared → Prop} {s : Shared} {env : Env} {Q : Flow → Shared → Prop}
theorem wpC_noE {α : Type} {t : Sem α} {Q : α → Shared → Prop} (h : wpC M A t Q noE s) : wpC M A t Q E s := wpC_mono h (fun _ _ x => x) fun _ _ x => x.elim
theorem wpC_onRaise0 {α : Type} {m : Sem α} {k : Value → Sem Unit} {Q : α → Shared → Prop} (h : wpC M A m Q noE s) : wpC M A (m.onRaise k) Q E s :=
  wpC_onRaise (wpC_noE h)
theorem wpC_AssignName {x : Str} {pos' : Pos} {value : Expr} {pos : Pos}
    (h : wpC M A (eval value env) (fun v s₁ => wpAny M A (storeName env x v) (fun _ => Q .next) E s₁) E s)
    (hs : swapsWith value (some (.Name x pos')) pos.line env = pure false := by rfl) : wpC M A (exec (.Assign [.Name x pos'] value pos) env) Q E s := fun Γ p hΓ hc => by
  simp only [exec_Assign_Name env x pos' value pos hs, Sem.wp_bind', Sem.wp_cmd_standAt, Sem.wp_bindName, Sem.wp_pure']
  exact Sem.wp_mono M Γ _ (fun v _ s₁ h₁ => h₁ Γ _ hΓ) (fun _ _ _ h' => h') _ _ (h Γ _ hΓ hc)
theorem wpC_AssignAttr {o attr pos' value pos}
    (h : wpC M A (eval value env) (fun v s₁ => wpAny M A (eval o env) (fun ov s₂ => wpAny M A (setAttr ov attr v) (fun _ => Q .next) E s₂) E s₁) E s)
    (hs : swapsWith value (some (.Attribute o attr pos')) pos.line env = pure false := by rfl) :
    wpC M A (exec (.Assign [.Attribute o attr pos'] value pos) env) Q E s := fun Γ p hΓ hc => by
  simp only [plainObj_exec_Assign_Attribute o attr pos' value pos hs, assign_Attribute, Sem.wp_bind', Sem.wp_holding, Sem.wp_cmd_standAt, Sem.wp_release, Sem.wp_pure']
  exact Sem.wp_mono M Γ _ (fun v p₁ s₁ h₁ => Sem.wp_mono M Γ _ (fun ov _ s₂ h₂ => h₂ Γ _ hΓ) (fun _ _ _ h' => h') _ _ (h₁ Γ p₁ hΓ)) (fun _ _ _ h' => h') _ _ (h Γ _ hΓ hc)
theorem wpC_AssignTup {elts k tpos value pos} {names : List Str}
    (h : wpC M A (eval value env) (fun v s₁ => wpAny M A (unpackItems v names.length none) (fun items s₂ =>
      wpAny M A (assignInOrder (names.reverse.map fun n => bindName env n) items.reverse) (fun _ => Q .next) E s₂) E s₁) E s)
    (hs : swapsWithSole [.Tuple elts k tpos] value pos.line env = pure false := by rfl)
    (hw : swappedStores [.Tuple elts k tpos] value env = pure (some names) := by rfl) :
    wpC M A (exec (.Assign [.Tuple elts k tpos] value pos) env) Q E s := by
  rw [exec_Assign]
  refine wpC_bindA (wpAny_standAt ?_)
  rw [hs]
  refine wpC_bindA (wpAny_pure ?_)
  rw [if_neg (by decide)]
  refine wpC_bind (wpC_mono h (fun v s₁ h₁ => ?_) fun _ _ x => x)
  rw [hw]
  refine wpC_bindA (wpAny_pure ?_)
  show wpC M A (do rule "assign.swapped-stores"; let items ← unpackItems v names.length none; assignInOrder (names.reverse.map fun n => bindName env n) items.reverse; pure .next) Q E s₁
  exact wpC_bindA (wpAny_rule (wpC_bindA (wpAny_mono h₁ (fun items s₂ h₂ => wpC_bindA (wpAny_mono h₂ (fun _ _ x => wpC_pure x) fun _ _ x => x)) fun _ _ x => x)))
theorem wpC_Tuple2 {e₁ e₂ : Expr} {k : Nat} {pos : Pos} {Q : Value → Shared → Prop}
    (h : wpAny M A (eval e₁ env) (fun v₁ s₁ => wpC M A (eval e₂ env) (fun v₂ s₂ => wpAny M A (newTuple [v₁, v₂]) Q E s₂) E s₁) E s)
    (he : starEach [e₁, e₂] env = [(false, eval e₁ env), (false, eval e₂ env)] := by rfl) : wpC M A (eval (.Tuple [e₁, e₂] k pos) env) Q E s := by
  show wpC M A (do standAt pos; newTuple (← spliced (backTo pos (starEach [e₁, e₂] env)))) Q E s
  rw [he]
  refine wpC_bindA (wpAny_standAt ?_)
  refine wpC_bind ?_
  show wpC M A (spliced [(false, eval e₁ env), (false, eval e₂ env)]) _ E s
  rw [spliced]
  refine wpC_bindA (wpAny_mono h (fun v s₁ h₁ => ?_) fun _ _ x => x)
  simp only [Bool.false_eq_true, if_false]
  refine wpC_bindA (wpAny_pure (wpC_bind (wpC_holding ?_)))
  rw [spliced]
  refine wpC_bind (wpC_mono h₁ (fun v₂ s₂ h₂ => ?_) fun _ _ x => x)
  simp only [Bool.false_eq_true, if_false]
  refine wpC_bindA (wpAny_pure (wpC_bindA (wpAny_holding ?_)))
  rw [spliced]
  exact wpAny_pure (wpC_pure (wpC_pure (wpC_any h₂)))
theorem wpC_Expr {value : Expr} {pos : Pos} (h : wpC M A (eval value env) (fun v s₁ => v = .none ∧ Q .next s₁) E s)
    (hi : interactive env = false := by rfl) (hs : swapsWith value none pos.line env = pure false := by rfl) : wpC M A (exec (.Expr value pos) env) Q E s := by
  show wpC M A (do
    standAt pos
    if interactive env then printExpr (eval value env)
    else if ← swapsWith value none pos.line env then do evalThenUse value env fun _ => point; pure .next
    else do dropValue value pos (← eval value env)) Q E s
  refine wpC_bindA (wpAny_standAt ?_)
  rw [hi, if_neg (by decide), hs]
  refine wpC_bindA (wpAny_pure ?_)
  rw [if_neg (by decide)]
  refine wpC_bind (wpC_mono h (fun v s₁ h₁ => ?_) fun _ _ x => x)
  obtain ⟨rfl, q⟩ := h₁
  have e : dropValue value pos .none = pure .next := by
    unfold dropValue
    split <;> first | rfl | (rename_i z; cases z)
  rw [e]
  exact wpC_pure q
theorem wpC_IfCmp {l : Expr} {op : CmpOp} {r : Expr} {body : List Stmt} {pos cpos : Pos}
    (h : wpC M A (eval l env) (fun a s₁ => wpAny M A (eval r env) (fun b s₂ => wpAny M A (compareOp op a b) (fun c s₃ => wpAny M A (truthy c) (fun t s₄ => t = false ∧ Q .next s₄) E s₃) E s₂) E s₁) E s)
    (hm : behindInMarks op r = false := by with_unfolding_all rfl) : wpC M A (exec (.If (.Compare l [op] [r] cpos) body [] pos) env) Q E s := fun Γ p hΓ hc => by
  simp only [exec_If, isTrue_Compare1, markedBehindIn_of_false hm, Sem.wp_bind', Sem.wp_holding, Sem.wp_cmd_standAt, Sem.wp_operate]
  refine Sem.wp_mono M Γ _ (fun a p₁ s₁ h₁ => ?_) (fun _ _ _ h' => h') _ _ (h Γ _ hΓ hc)
  refine Sem.wp_mono M Γ _ (fun b p₂ s₂ h₂ => ?_) (fun _ _ _ h' => h') _ _ (h₁ Γ _ hΓ)
  refine Sem.wp_mono M Γ _ (fun c p₃ s₃ h₃ => ?_) (fun _ _ _ h' => h') _ _ (h₂ Γ _ hΓ)
  refine Sem.wp_mono M Γ _ (fun t p₄ s₄ h₄ => ?_) (fun _ _ _ h' => h') _ _ (h₃ Γ _ hΓ)
  obtain ⟨rfl, q⟩ := h₄
  show Sem.wp M Γ (execs [] env) _ _ _ _
  rw [execs_nil, Sem.wp_pure']
  exact q
theorem callWith_C {pos : Pos} {f : Value} {first : List Value} {args : List (Bool × Sem Value)} {Q : Value → Shared → Prop} (hplain : args.any (·.1) = false)
    (h : wpAny M A (evalArgs f true args []) (fun a s₁ => (∃ k, (k = Keeper.frame ∨ k = Keeper.machine ∨ k = Keeper.boundFrame) ∧ Looks M s₁.heap (keeperOf f) k) ∧ wpC M A (call f (first ++ a.pos) a.kw) Q E s₁) E s) : wpC M A (callWith pos f first args []) Q E s := by
  unfold callWith
  refine wpC_bindA (wpAny_holding (wpAny_mono h (fun a s₁ h₁ => wpC_bindA (wpAny_standAt ?_)) fun _ _ x => x))
  obtain ⟨⟨k, hk', L⟩, h₁⟩ := h₁
  simp only [hplain, List.any_nil, Bool.or_false]
  refine wpC_bindA (L.here ?_)
  have tail : ∀ {t : Sem Value}, wpC M A t Q E s₁ → wpC M A (t >>= fun r => holding [r] point >>= fun _ => pure r) Q E s₁ :=
    fun ht => wpC_bind (wpC_mono ht (fun r s₂ hr => wpC_bindA (wpAny_holding (wpAny_point (wpC_pure hr)))) fun _ _ x => x)
  have marked (mk : Value) : wpC M A (callMarked mk f (first ++ a.pos) a.kw) Q E s₁ := by
    unfold callMarked
    exact fun Γ p hΓ hc => by rw [Sem.wp_keep]; exact h₁ Γ p hΓ hc
  rcases hk' with rfl | rfl | rfl <;> dsimp only <;> first | exact tail h₁ | (split <;> first | exact tail h₁ | exact tail (marked _))
/-- the callee's keeper is known, and P -/
noncomputable def KeepsC (M : Model) (h : Heap) (f : Value) (P : Prop) : Prop := (∃ k, (k = Keeper.frame ∨ k = Keeper.machine ∨ k = Keeper.boundFrame) ∧ Looks M h (keeperOf f) k) ∧ P
theorem keepsC_b {h : Heap} {id : String} {P : Prop} (p : P) : KeepsC M h (.builtin id) P := ⟨⟨.machine, .inr (.inl rfl), .now⟩, p⟩
theorem keepsC_t {h : Heap} {id : String} {P : Prop} (p : P) : KeepsC M h (.type id) P := ⟨⟨.machine, .inr (.inl rfl), .now⟩, p⟩
theorem keepsC_f {K : Frag} {h h₀ : Heap} {L : Addr} {m : Str → Option Value} {f : Value} {P : Prop} (F : Fr h₀ L h m) (X : K.In h₀) (e : keepIn K f = true) (p : P) : KeepsC M h f P := ⟨keeps_K e h (X.keeps F.keep), p⟩
/-- a method call: the callee and the arguments are walked as ever, the call itself at clean stacks -/
theorem wpC_Method0 {o : Expr} {name : Str} {apos pos : Pos} {pl : Sem Bool} {Q : Value → Shared → Prop}
    (h : wpAny M A (eval o env) (fun ov s₁ => wpAny M A (getMethod ov name pl) (fun fx s₂ => KeepsC M s₂.heap fx.1 <| wpC M A (call fx.1 (fx.2 ++ [])) Q E s₂) E s₁) E s)
    (he : eval (.Call (.Attribute o name apos) [] [] pos) env = (do
      let ov ← eval o env
      standAt apos.atName
      let (f, first) ← holding [ov] (getMethod ov name pl)
      callWith pos f first (backTo pos (starEach [] env)) (backToKw pos (keywordEach [] env))) := by rfl) : wpC M A (eval (.Call (.Attribute o name apos) [] [] pos) env) Q E s := by
  rw [he]
  refine wpC_bindA (wpAny_mono h (fun ov s₁ h₁ => wpC_bindA (wpAny_standAt (wpC_bindA (wpAny_holding (wpAny_mono h₁ (fun fx s₂ h₂ => ?_) fun _ _ x => x))))) fun _ _ x => x)
  exact callWith_C rfl (evalArgs_nil3 h₂)
theorem wpC_Method {o e : Expr} {rest : List Expr} {name : Str} {apos pos : Pos} {pl : Sem Bool} {Q : Value → Shared → Prop}
    (h : wpAny M A (eval o env) (fun ov s₁ => wpAny M A (getMethod ov name pl) (fun fx s₂ => wpAny M A (spliced (backTo pos (starEach (e :: rest) env))) (fun vs s₃ => KeepsC M s₃.heap fx.1 <| wpC M A (call fx.1 (fx.2 ++ vs)) Q E s₃) E s₂) E s₁) E s)
    (hs : starEach (e :: rest) env = (false, eval e env) :: starEach rest env := by rfl) (hp : (backTo pos (starEach rest env)).any (·.1) = false := by rfl)
    (he : eval (.Call (.Attribute o name apos) (e :: rest) [] pos) env = (do
      let ov ← eval o env
      standAt apos.atName
      let (f, first) ← holding [ov] (getMethod ov name pl)
      callWith pos f first (backTo pos (starEach (e :: rest) env)) (backToKw pos (keywordEach [] env))) := by rfl) : wpC M A (eval (.Call (.Attribute o name apos) (e :: rest) [] pos) env) Q E s := by
  rw [he]
  refine wpC_bindA (wpAny_mono h (fun ov s₁ h₁ => wpC_bindA (wpAny_standAt (wpC_bindA (wpAny_holding (wpAny_mono h₁ (fun fx s₂ h₂ => ?_) fun _ _ x => x))))) fun _ _ x => x)
  rw [hs] at h₂ ⊢
  exact callWith_C (by show (false || (backTo pos (starEach rest env)).any (·.1)) = false; rw [hp]; rfl) (evalArgs_plain h₂)
theorem wpC_CallName0 {x : Str} {np pos : Pos} {Q : Value → Shared → Prop}
    (h : wpAny M A (eval (.Name x np) env) (fun f s₁ => KeepsC M s₁.heap f <| wpC M A (call f []) Q E s₁) E s) : wpC M A (eval (.Call (.Name x np) [] [] pos) env) Q E s := by
  show wpC M A (do callWith pos (← eval (.Name x np) env) [] (backTo pos (starEach [] env)) (backToKw pos (keywordEach [] env))) Q E s
  exact wpC_bindA (wpAny_mono h (fun f s₁ h₁ => callWith_C rfl (evalArgs_nil3 h₁)) fun _ _ x => x)
theorem wpC_CallName {x : Str} {np pos : Pos} {e : Expr} {rest : List Expr} {Q : Value → Shared → Prop}
    (h : wpAny M A (eval (.Name x np) env) (fun f s₁ => wpAny M A (spliced (backTo pos (starEach (e :: rest) env))) (fun vs s₃ => KeepsC M s₃.heap f <| wpC M A (call f vs) Q E s₃) E s₁) E s)
    (hs : starEach (e :: rest) env = (false, eval e env) :: starEach rest env := by rfl) (hp : (backTo pos (starEach rest env)).any (·.1) = false := by rfl) : wpC M A (eval (.Call (.Name x np) (e :: rest) [] pos) env) Q E s := by
  show wpC M A (do callWith pos (← eval (.Name x np) env) [] (backTo pos (starEach (e :: rest) env)) (backToKw pos (keywordEach [] env))) Q E s
  rw [hs]
  refine wpC_bindA (wpAny_mono h (fun f s₁ h₁ => ?_) fun _ _ x => x)
  rw [hs] at h₁
  exact callWith_C (by show (false || (backTo pos (starEach rest env)).any (·.1)) = false; rw [hp]; rfl) (evalArgs_plain h₁)
end
section
variable {prog : Program} {w : World} {A : Around} {s : Shared} {env : Env}
theorem codeC_for {R : Result → Shared → Prop} {target : Expr} {it : Value} {body : List Stmt} (I : Nat → Shared → Prop)
    (turn : ∀ n s, I n s → wpAny (model prog w) A (pyNext it) (fun r s₁ => match r with
      | none => R (.ok .next) s₁
      | some v => wpAny (model prog w) A (letOwnedTupleGo target it v) (fun _ s₁' => wpAny (model prog w) A (assign target env v) (fun _ s₂ => wpC (model prog w) A (execs body env) (fun f s₃ => match f with
          | .next | .cont => ∃ m, m < n ∧ I m s₃
          | .brk => R (.ok .next) s₃
          | .ret v => R (.ok (.ret v)) s₃) noE s₂) noE s₁') noE s₁) noE s) :
    ∀ (n : Nat) (s : Shared), I n s → codeC (model prog w) A (.forLoop target it body [] env) R s := by
  intro n
  induction n using Nat.strongRecOn with
  | ind n ih =>
    intro s hI
    refine codeC_tree rfl ?_
    show wpC _ A ((forTurn target it body [] env).onRaise (fun x => do noteFrame x env; theTreesLotGoes x)) _ _ s
    refine wpC_onRaise0 ?_
    simp only [forTurn]
    refine wpC_bindA (wpAny_standAt (wpC_bindA (wpAny_onRaise (wpAny_mono (turn n s hI) (fun r s₁ h₁ => ?_) fun _ _ x => x.elim))))
    cases r with
    | none => exact wpC_pure ⟨rfl, codeC_any (codeAny_block (wpAny_execs_nil h₁))⟩
    | some v =>
      refine wpC_bindA (wpAny_mono h₁ (fun _ s₁' h₁' => ?_) fun _ _ x => x)
      refine wpC_bindA (wpAny_mono h₁' (fun _ s₂ h₂ => ?_) fun _ _ x => x)
      refine wpC_bind (wpC_mono h₂ (fun f s₃ h₃ => ?_) fun _ _ x => x)
      cases f with
      | next => obtain ⟨m, hm, hi⟩ := h₃; exact wpC_pure ⟨rfl, ih m hm _ hi⟩
      | cont => obtain ⟨m, hm, hi⟩ := h₃; exact wpC_pure ⟨rfl, ih m hm _ hi⟩
      | brk => exact wpC_pure h₃
      | ret v => exact wpC_pure h₃
theorem wpC_For {target iter : Expr} {body : List Stmt} {pos : Pos} {Q : Flow → Shared → Prop} {E : Value → Shared → Prop}
    (h : wpAny (model prog w) A (eval iter env) (fun x s₁ => wpAny (model prog w) A (pyIter x) (fun it s₂ =>
      codeC (model prog w) A (.forLoop target it body [] env) (fun r s' => match r with | .ok f => Q f s' | .error _ => False) s₂) E s₁) E s)
    (hs : ∀ x, foldedSetIterable iter env x = pure x := by intro _; rfl) : wpC (model prog w) A (exec (.For target iter body [] pos) env) Q E s := by
  rw [exec_For]
  refine wpC_bindA (wpAny_standAt (wpC_bindA (wpAny_mono h (fun x s₁ h₁ => ?_) fun _ _ x => x)))
  refine wpC_bindA (wpAny_of_eq (hs x) (wpC_bindA (wpAny_standAt (wpC_bindA (wpAny_holding (wpAny_mono h₁ (fun it s₂ h₂ => ?_) fun _ _ x => x))))))
  unfold runOwn
  refine wpC_onRaise0 (wpC_run (codeC_mono h₂ fun r s' y => ?_))
  cases r with
  | ok f => exact y
  | error e => exact y
end

theorem anew_16 : True := by w_top off; trivial
section
variable {prog : Program} {w : World} {A : Around} {K : Frag} {C : Addr} {R : Result → Shared → Prop} {h : Heap} {g : Array GenState} {d : Drawn} {t : Nat} {os : OsState} {E : Value → Shared → Prop} {s : Shared} {h₀ : Heap} {L : Addr} {m : PySem.Str → Option Value} {news : Led}
theorem wpC_if_false {α : Type} {M : Model} {c : Bool} {a b : Sem α} {Q : α → Shared → Prop} (hc : c = false) (h : wpC M A b Q E s) : wpC M A (if c = true then a else b) Q E s := by
  subst hc
  exact h
theorem make_C {rest : List Value} {fI : Addr} (F : Fr h₀ L s.heap m) (N : News h₀ L s.heap news) (X : K.In s.heap) (hm : makesIn K C = true)
    (hi : findIn K (.ref C) "__init__" = some (some (.ref fI))) (hf : typeIn K (.ref fI) = some (.type "function"))
    (hc : ∀ x dx h', Fr h₀ L h' m → News h₀ L h' ((x, instObj C dx) :: (dx, emptyDict) :: news) → (∀ p ∈ news, p.1 < dx) → dx < x →
      codeC (model prog w) (A.under (.builtin "type.__call__" ⟨.ref C :: rest, []⟩)) (.call (.ref fI) ⟨.ref x :: rest, []⟩) (InitBack x R) { s with heap := h' }) :
    codeC (model prog w) A (.call (.ref C) ⟨rest, []⟩) R s := by
  obtain ⟨⟨oc, od, cd, sl, hC, e1, e2, e4⟩, made, base, self, top, call, typ⟩ := makes_of (M := model prog w) X hm
  have Y := makes_of (M := model prog w) X hm
  have hne : (some (Value.ref fI) != some (Value.builtin "object.__init__")) = true := rfl
  have hfi := looks_findIn (M := model prog w) X hi
  obtain ⟨hh, g, d, t, os⟩ := s
  refine codeC_tree rfl ?_
  show wpC _ _ (callAny (.ref C) ⟨rest, []⟩) _ _ _
  unfold callAny
  dsimp only
  refine wpC_bindA (wpAny_load hC ?_)
  dsimp only
  show wpC _ _ (callAny.viaDunder (.ref C) ⟨rest, []⟩) _ _ _
  unfold callAny.viaDunder
  refine wpC_bindA (call.here ?_)
  dsimp only
  rw [tc_bind]
  refine wpC_bindA (wpAny_pure ?_)
  refine wpC_bindA (wpAny_pure ?_)
  refine wpC_pure (a := Fin.again (.call (.builtin "type.__call__") ⟨.ref C :: rest, []⟩)) (And.intro rfl ?_)
  refine codeC_treeA rfl ?_
  show wpAny _ _ (do checkBuiltinCall "type.__call__" ⟨.ref C :: rest, []⟩; again (.builtin "type.__call__" ⟨.ref C :: rest, []⟩)) _ _ _
  refine wpAny_bind (check_slot tc_kind tc_split typ (tc_args _ _ _) (wpAny_pure ⟨Code.quiet_builtin _ (by decide +kernel), codeC_entry (by show badIds.contains "type.__call__" = false; decide +kernel) entry_typeCall ?_⟩))
  unfold Builtin.«type.__call__»
  dsimp only
  have hmr : Looks (model prog w) hh (mroOf (.ref C)) cd.mro := ((Looks.ld (part := none) hC).andThen .now).andThen .now
  refine wpC_if_false rfl ?_
  refine wpC_bindA (hmr.here ?_)
  rw [if_neg (by rw [e4]; exact Bool.false_ne_true)]
  refine wpC_bindA (made.here ?_)
  dsimp only
  refine wpC_bindA (wpAny_pure ?_)
  have k : ∀ b o, hh.get? b = some o → ((hh.push emptyDict).push (instObj C hh.objs.size)).get? b = some o := fun b o e => Heap.get?_push_of_some _ (Heap.get?_push_of_some _ e)
  have hx : ((hh.push emptyDict).push (instObj C hh.objs.size)).get? (hh.objs.size + 1) = some (instObj C hh.objs.size) := by heap_get
  have t1 : Looks (model prog w) ((hh.push emptyDict).push (instObj C hh.objs.size)) (typeOf (.ref (hh.objs.size + 1))) (.ref C) := (Looks.ld hx).andThen .now
  refine wpC_bindA (wpAny_holding (wpAny_call (new_K Y hfi (.inl hne) ?_)))
  dsimp only
  have i1 : Looks (model prog w) ((hh.push emptyDict).push (instObj C hh.objs.size)) (isInstance (.ref (hh.objs.size + 1)) (.ref C)) true := t1.andThen (self.keeps k)
  refine wpC_bindA (i1.here ?_)
  refine wpC_if_false rfl ?_
  refine wpC_bind (wpC_holding ?_)
  unfold callSpecial? specialOf
  refine wpC_bind ?_
  refine wpC_bindA (t1.here ?_)
  refine wpC_any ((hfi.keeps k).here ?_)
  dsimp only
  refine wpC_holding ?_
  refine wpC_bindA (((bind_fn X (.ref (hh.objs.size + 1)) hf).keeps k).here ?_)
  have N1 := (N.push F emptyDict).push (F.push _) (instObj C hh.objs.size)
  rw [Heap.size_push] at N1
  refine wpC_bind (wpC_call (codeC_mono (hc _ hh.objs.size _ ((F.push _).push _) N1 (fun p hp => Heap.lt_size (N p hp).1) (Nat.lt_succ_self _)) fun r s' z => ?_))
  rcases r with e | (v | _ | _ | _) <;> first | exact z | exact z.elim | skip
  obtain ⟨rfl, z⟩ := z
  refine wpC_pure ?_
  dsimp only
  rw [if_neg (by decide)]
  exact wpC_pure z
end

theorem anew_17 : True := by w_top off; trivial
theorem sq_ring {ring base p : Int} : sq ring base (p + ring) = sq ring base p := by
  unfold sq
  rw [← Int.add_assoc, Int.add_emod_right]
theorem bytes_eq {a b : Array UInt8} {t : Tok} (h : a = b) : Value.bytes a t = Value.bytes b t := by rw [h]
structure RS where
  ring : Int
  bs : Int
  room : Int
  rd : Int
  n : Int
  over : Bool
  fin : Option Int
  urg : Option Int
  I : List (Int × Int)
noncomputable def RS.nx (S : RS) : Int := if S.over = true then S.n + 1 else S.n
theorem RS.nx_le (S : RS) : S.n ≤ S.nx ∧ S.nx ≤ S.n + 1 := by unfold RS.nx; split <;> (first | lia | omega)
noncomputable def IsOpt (ring bs : Int) (v : Value) : Option Int → Prop
  | none => v = .none
  | some f => ∃ t, v = .int (sq ring bs f) t
noncomputable abbrev recvD (w : World) (k0 k1 k2 k3 k4 k5 k6 k7 k8 k9 v0 v1 v2 v3 v6 : Tok) (ring room next told : Int) (rb x : Addr) (fin : Value) (over : Bool) (urg : Value) : Obj :=
  dictOf [kv w "ring" k0 (.int ring v0), kv w "room" k1 (.int room v1), kv w "mss" k2 (.int 1 v2), kv w "next" k3 (.int next v3), kv w "ready" k4 (.ref rb), kv w "assembly" k5 (.ref x),
    kv w "told_edge" k6 (.int told v6), kv w "fin_at" k7 fin, kv w "has_fin" k8 (.bool over), kv w "urgent_at" k9 urg] 10
structure RAt (w : World) (r dr rb x dx l : Addr) (vs : List Value) (nn : Nat) (k0 k1 k2 k3 k4 k5 k6 k7 k8 k9 v0 v1 v2 v3 v6 a1 a2 a3 : Tok) (fv uv : Value) (S : RS) (P : Led) : Prop where
  hf : IsOpt S.ring S.bs fv S.fin
  hu : IsOpt S.ring S.bs uv S.urg
  mr : (r, instObj 275 dr) ∈ P
  md : (dr, recvD w k0 k1 k2 k3 k4 k5 k6 k7 k8 k9 v0 v1 v2 v3 v6 S.ring S.room (sq S.ring S.bs S.nx) (sq S.ring S.bs S.room) rb x fv S.over uv) ∈ P
  mb : (rb, barr (octs S.rd S.n)) ∈ P
  mx : (x, instObj 141 dx) ∈ P
  mdx : (dx, asmD w a1 a2 S.ring a3 l) ∈ P
  ml : (l, listOf vs.toArray nn) ∈ P
  mt : TupsIn P (sq S.ring S.bs) vs S.I
/-- the receiver r stands in the ledger P as S says -/
inductive Recv (w : World) (r : Addr) (S : RS) (P : Led) : Prop
  | mk : ∀ dr rb x dx l vs nn k0 k1 k2 k3 k4 k5 k6 k7 k8 k9 v0 v1 v2 v3 v6 a1 a2 a3 fv uv, RAt w r dr rb x dx l vs nn k0 k1 k2 k3 k4 k5 k6 k7 k8 k9 v0 v1 v2 v3 v6 a1 a2 a3 fv uv S P → Recv w r S P
structure ROk (S : RS) : Prop where
  ring : 256 ≤ S.ring
  room : 8 ≤ S.room ∧ S.room ≤ 20
  rd : 0 ≤ S.rd ∧ S.rd ≤ S.n
  n : S.n ≤ S.room
  fin : ∀ f ∈ S.fin, S.n ≤ f ∧ f ≤ 40
  urg : ∀ u ∈ S.urg, 0 ≤ u ∧ u ≤ 40
  parts : ∀ p ∈ S.I, S.n < p.1 ∧ p.1 < p.2 ∧ p.2 ≤ S.room
  len : S.I.length ≤ 20
  over : S.over = true → S.I = [] ∧ S.fin = some S.n
section
variable {w : World} {mean : ExcName → Option Value} {mg mb : Str → Option Value} {news : Led} {r : Addr} {S : RS}
theorem free_edge_spec (H : Recv w r S news) (ok : ROk S) : Spec w mean mg mb 167 4 [.ref r] news (fun v n' => n' = news ∧ ∃ t, v = .int (sq S.ring S.bs (S.nx + (S.room - (S.n - S.rd)))) t) := by
  obtain ⟨dr, rb, x, dx, l, vs, nn, k0, k1, k2, k3, k4, k5, k6, k7, k8, k9, v0, v1, v2, v3, v6, a1, a2, a3, fv, uv, hf, hu, mr, md, mb, mx, mdx, ml, mt⟩ := H
  have h1 := ok.ring
  have h2 := ok.room
  have h3 := ok.rd
  have h4 := ok.n
  have h5 := S.nx_le
  unfold Spec; k_fill; intro dp un gd cn cs a' ccd cl outer A₀ base h₀ L m s Q E B F X N T hk hdp hun hret
  refine wpAny_call ?_
  k_dflt (refine' code_defM [("self", .ref r)] ?k1 ?k2 ?k3 ?k4 ?k5 ?kA ?kF ?kK ?k6 ?k7 ?k8 ?k9 ?kB ?_ ?c2 ?c3 ?c4 ?c5; walk_at "mine enter")
  k_steps
  exact hret _ _ _ _ (by k_asm) (by k_asm) ⟨rfl, _, rfl⟩
theorem available_spec (H : Recv w r S news) (ok : ROk S) : Spec w mean mg mb 237 2 [.ref r] news (fun v n' => n' = news ∧ ∃ t, v = .int (S.n - S.rd) t) := by
  obtain ⟨dr, rb, x, dx, l, vs, nn, k0, k1, k2, k3, k4, k5, k6, k7, k8, k9, v0, v1, v2, v3, v6, a1, a2, a3, fv, uv, hf, hu, mr, md, mb, mx, mdx, ml, mt⟩ := H
  have h2 := ok.room
  have h3 := ok.rd
  have h4 := ok.n
  unfold Spec; k_fill; intro dp un gd cn cs a' ccd cl outer A₀ base h₀ L m s Q E B F X N T hk hdp hun hret
  refine wpAny_call ?_
  k_dflt (refine' code_defM [("self", .ref r)] ?k1 ?k2 ?k3 ?k4 ?k5 ?kA ?kF ?kK ?k6 ?k7 ?k8 ?k9 ?kB ?_ ?c2 ?c3 ?c4 ?c5; walk_at "mine enter")
  k_steps
  exact hret _ _ _ _ (by k_asm) (by k_asm) ⟨rfl, _, rfl⟩
theorem is_over_spec (H : Recv w r S news) (ok : ROk S) : Spec w mean mg mb 251 2 [.ref r] news (fun v n' => n' = news ∧ v = .bool (S.over && decide (S.n = S.rd))) := by
  obtain ⟨dr, rb, x, dx, l, vs, nn, k0, k1, k2, k3, k4, k5, k6, k7, k8, k9, v0, v1, v2, v3, v6, a1, a2, a3, fv, uv, hf, hu, mr, md, mb, mx, mdx, ml, mt⟩ := H
  have h2 := ok.room
  have h3 := ok.rd
  have h4 := ok.n
  unfold Spec; k_fill; intro dp un gd cn cs a' ccd cl outer A₀ base h₀ L m s Q E B F X N T hk hdp hun hret
  refine wpAny_call ?_
  k_dflt (refine' code_defM [("self", .ref r)] ?k1 ?k2 ?k3 ?k4 ?k5 ?kA ?kF ?kK ?k6 ?k7 ?k8 ?k9 ?kB ?_ ?c2 ?c3 ?c4 ?c5; walk_at "mine enter")
  k_steps
  · rename S.over = true => ho
    refine hret _ _ _ _ (by k_asm) (by k_asm) ⟨rfl, congrArg Value.bool ?_⟩
    rw [ho, Bool.true_and]
    by_cases e : S.n = S.rd
    · simp [e]
    · simp [e]; (first | lia | omega)
  · have ho : S.over = false := by
      cases h : S.over
      · rfl
      · simp_all
    refine hret _ _ _ _ (by k_asm) (by k_asm) ⟨rfl, congrArg Value.bool ?_⟩
    rw [ho, Bool.false_and]
theorem read_place_spec (H : Recv w r S news) (ok : ROk S) : Spec w mean mg mb 258 4 [.ref r] news (fun v n' => n' = news ∧ ∃ t, v = .int (sq S.ring S.bs S.rd) t) := by
  obtain ⟨dr, rb, x, dx, l, vs, nn, k0, k1, k2, k3, k4, k5, k6, k7, k8, k9, v0, v1, v2, v3, v6, a1, a2, a3, fv, uv, hf, hu, mr, md, mb, mx, mdx, ml, mt⟩ := H
  have h1 := ok.ring
  have h2 := ok.room
  have h3 := ok.rd
  have h4 := ok.n
  have h5 : S.over = true ∧ S.nx = S.n + 1 ∨ S.over = false ∧ S.nx = S.n := by unfold RS.nx; cases S.over <;> simp
  unfold Spec; k_fill; intro dp un gd cn cs a' ccd cl outer A₀ base h₀ L m s Q E B F X N T hk hdp hun hret
  refine wpAny_call ?_
  k_dflt (refine' code_defM [("self", .ref r)] ?k1 ?k2 ?k3 ?k4 ?k5 ?kA ?kF ?kK ?k6 ?k7 ?k8 ?k9 ?kB ?_ ?c2 ?c3 ?c4 ?c5; walk_at "mine enter")
  k_steps
  · rename S.over = true => ho
    have h6 : S.nx = S.n + 1 := by unfold RS.nx; rw [ho]; rfl
    refine hret _ _ _ _ (by k_asm) (by k_asm) ⟨rfl, _, int_eq ?_⟩
    rw [show S.nx + (S.ring - (S.n - S.rd + 1)) = S.rd + S.ring by (first | lia | omega), sq_ring]
  · have ho : S.over = false := by
      cases h : S.over
      · rfl
      · simp_all
    have h6 : S.nx = S.n := by unfold RS.nx; rw [ho]; rfl
    refine hret _ _ _ _ (by k_asm) (by k_asm) ⟨rfl, _, int_eq ?_⟩
    rw [show S.nx + (S.ring - (S.n - S.rd + 0)) = S.rd + S.ring by (first | lia | omega), sq_ring]
theorem mm_le {u v m : Int} (h : ¬ u < m) : max u (min v m) ≤ u := Int.max_le.mpr ⟨Int.le_refl _, Int.le_trans (Int.min_le_right _ _) (Int.not_lt.mp h)⟩
theorem let_in_spec {u v : Int} {tu to : Tok} (H : Recv w r S news) (ok : ROk S) (hu : 0 ≤ u ∧ u ≤ v ∧ v ≤ 40) :
    Spec w mean mg mb 202 8 [.ref r, .int (sq S.ring S.bs u) tu, .bytes (octs u v) to] news (fun y n' => n' = news ∧ ∃ t, y = .bytes (octs u (max u (min v S.room))) t) := by
  obtain ⟨dr, rb, x, dx, l, vs, nn, k0, k1, k2, k3, k4, k5, k6, k7, k8, k9, v0, v1, v2, v3, v6, a1, a2, a3, fv, uv, hf, hu', mr, md, mb, mx, mdx, ml, mt⟩ := H
  have h1 := ok.ring
  have h2 := ok.room
  unfold Spec; k_fill; intro dp un gd cn cs a' ccd cl outer A₀ base h₀ L m s Q E B F X N T hk hdp hun hret
  refine wpAny_call ?_
  k_dflt (refine' code_defM [("octets", .bytes (octs u v) to), ("seq", .int (sq S.ring S.bs u) tu), ("self", .ref r)] ?k1 ?k2 ?k3 ?k4 ?k5 ?kA ?kF ?kK ?k6 ?k7 ?k8 ?k9 ?kB ?_ ?c2 ?c3 ?c4 ?c5; walk_at "mine enter")
  k_steps
  · rename (_ : Array UInt8) = octs _ _ => hx9
    refine hret _ _ _ _ (by k_asm) (by k_asm) ⟨rfl, _, bytes_eq ?_⟩
    rw [hx9, show u + (S.room - u) = S.room by (first | lia | omega)]
    congr 1
    (first | lia | omega)
  · refine hret _ _ _ _ (by k_asm) (by k_asm) ⟨rfl, _, bytes_eq ?_⟩
    rw [octs_nil (by (first | lia | omega))]
  · refine hret _ _ _ _ (by k_asm) (by k_asm) ⟨rfl, _, bytes_eq ?_⟩
    rw [octs_nil (b := v) (by (first | lia | omega)), octs_nil (mm_le (by assumption))]
theorem ahead_spec {u v f : Int} {tu to : Tok} (H : Recv w r S news) (ok : ROk S) (hu : 0 ≤ u ∧ u ≤ v ∧ v ≤ 40) (hf : S.fin = some f) :
    Spec w mean mg mb 216 8 [.ref r, .int (sq S.ring S.bs u) tu, .bytes (octs u v) to] news (fun y n' => n' = news ∧ ∃ t, y = .bytes (octs u (max u (min v f))) t) := by
  obtain ⟨dr, rb, x, dx, l, vs, nn, k0, k1, k2, k3, k4, k5, k6, k7, k8, k9, v0, v1, v2, v3, v6, a1, a2, a3, fv, uv, hf', hu', mr, md, mb, mx, mdx, ml, mt⟩ := H
  have h1 := ok.ring
  have h3 := ok.rd
  have h2 := ok.fin f (by rw [hf]; exact rfl)
  rw [hf] at hf'
  obtain ⟨tf, rfl⟩ := hf'
  unfold Spec; k_fill; intro dp un gd cn cs a' ccd cl outer A₀ base h₀ L m s Q E B F X N T hk hdp hun hret
  refine wpAny_call ?_
  k_dflt (refine' code_defM [("octets", .bytes (octs u v) to), ("seq", .int (sq S.ring S.bs u) tu), ("self", .ref r)] ?k1 ?k2 ?k3 ?k4 ?k5 ?kA ?kF ?kK ?k6 ?k7 ?k8 ?k9 ?kB ?_ ?c2 ?c3 ?c4 ?c5; walk_at "mine enter")
  k_steps
  · rename (_ : Array UInt8) = octs _ _ => hx9
    refine hret _ _ _ _ (by k_asm) (by k_asm) ⟨rfl, _, bytes_eq ?_⟩
    rw [hx9, show u + (f - u) = f by (first | lia | omega)]
    congr 1
    (first | lia | omega)
  · refine hret _ _ _ _ (by k_asm) (by k_asm) ⟨rfl, _, bytes_eq ?_⟩
    rw [octs_nil (mm_le (by assumption))]
end

theorem anew_17b : True := by w_top off; trivial
/-! The plain law on places -/
noncomputable def InI (I : List (Int × Int)) (x : Int) : Prop := ∃ p ∈ I, p.1 ≤ x ∧ x < p.2
theorem InI_nil {x : Int} : ¬ InI [] x := fun ⟨_, h, _⟩ => nomatch h
theorem InI_cons {p : Int × Int} {r : List (Int × Int)} {x : Int} : InI (p :: r) x ↔ (p.1 ≤ x ∧ x < p.2) ∨ InI r x := by
  constructor
  · rintro ⟨q, hq, h⟩
    rcases List.mem_cons.mp hq with rfl | hq
    · exact .inl h
    · exact .inr ⟨q, hq, h⟩
  · rintro (h | ⟨q, hq, h⟩)
    · exact ⟨p, .head _, h⟩
    · exact ⟨q, .tail _ hq, h⟩
/-- parts in order, apart from lo and from each other by a place at least -/
noncomputable def Can : Int → List (Int × Int) → Prop
  | _, [] => True
  | lo, p :: r => lo < p.1 ∧ p.1 < p.2 ∧ Can p.2 r
/-- parts in order, not over each other -/
noncomputable def Srt : Int → List (Int × Int) → Prop
  | _, [] => True
  | lo, p :: r => lo ≤ p.1 ∧ p.1 < p.2 ∧ Srt p.2 r
theorem Can.srt : ∀ {I : List (Int × Int)} {lo : Int}, Can lo I → Srt lo I
  | [], _, _ => True.intro
  | _ :: _, _, ⟨a, b, c⟩ => ⟨by (first | lia | omega), b, c.srt⟩
theorem Can.low : ∀ {I : List (Int × Int)} {lo lo' : Int}, Can lo I → lo' ≤ lo → Can lo' I
  | [], _, _, _, _ => True.intro
  | _ :: _, _, _, ⟨a, b, c⟩, h => ⟨by (first | lia | omega), b, c⟩
theorem Srt.low : ∀ {I : List (Int × Int)} {lo lo' : Int}, Srt lo I → lo' ≤ lo → Srt lo' I
  | [], _, _, _, _ => True.intro
  | _ :: _, _, _, ⟨a, b, c⟩, h => ⟨by (first | lia | omega), b, c⟩
theorem Can.mem : ∀ {I : List (Int × Int)} {lo : Int}, Can lo I → ∀ p ∈ I, lo < p.1 ∧ p.1 < p.2
  | [], _, _, _, hp => nomatch hp
  | q :: r, lo, ⟨a, b, c⟩, p, hp => by
    rcases List.mem_cons.mp hp with rfl | hp
    · exact ⟨a, b⟩
    · have := c.mem p hp; (first | lia | omega)
theorem Can.len : ∀ {I : List (Int × Int)} {lo hi : Int}, Can lo I → lo ≤ hi → (∀ p ∈ I, p.2 ≤ hi) → (I.length : Int) ≤ hi - lo
  | [], _, _, _, h, _ => by simp only [List.length_nil]; (first | lia | omega)
  | q :: r, lo, hi, ⟨a, b, c⟩, h, k => by
    have h1 := k q (.head _)
    have h2 := c.len h1 fun p hp => k p (.tail _ hp)
    rw [List.length_cons]; (first | lia | omega)
theorem Can.gt {I : List (Int × Int)} {lo x : Int} (h : Can lo I) (hx : InI I x) : lo < x := by
  obtain ⟨p, hp, h1⟩ := hx
  have := h.mem p hp; (first | lia | omega)
theorem iv_join {a b c x : Int} (h1 : a ≤ b) (h2 : b ≤ c) : a ≤ x ∧ x < c ↔ (a ≤ x ∧ x < b ∨ b ≤ x ∧ x < c) :=
  ⟨fun h => if d : x < b then .inl ⟨h.1, d⟩ else .inr ⟨Int.not_lt.mp d, h.2⟩, fun h => h.elim (fun k => ⟨k.1, Int.lt_of_lt_of_le k.2 h2⟩) fun k => ⟨Int.le_trans h1 k.1, k.2⟩⟩
theorem iv_gap {a p q v x : Int} (h1 : a < p) (h2 : p < q) (h3 : p < v) : (a ≤ x ∧ x < p ∨ p ≤ x ∧ x < q ∨ q ≤ x ∧ x < v) ↔ (p ≤ x ∧ x < q ∨ a ≤ x ∧ x < v) :=
  ⟨fun h => h.elim (fun k => .inr ⟨k.1, Int.lt_trans k.2 h3⟩) fun h => h.elim .inl fun k => .inr ⟨Int.le_trans (Int.le_of_lt (Int.lt_trans h1 h2)) k.1, k.2⟩,
   fun h => if c : x < p then h.elim (fun k => absurd k.1 (Int.not_le.mpr c)) (fun k => .inl ⟨k.1, c⟩) else if d : x < q then .inr (.inl ⟨Int.not_lt.mp c, d⟩) else h.elim (fun k => absurd k.2 d) fun k => .inr (.inr ⟨Int.not_lt.mp d, k.2⟩)⟩
theorem iv_on {a p q v x : Int} (h1 : p ≤ a) (h2 : a < q) : (p ≤ x ∧ x < q ∨ q ≤ x ∧ x < v) ↔ (p ≤ x ∧ x < q ∨ a ≤ x ∧ x < v) :=
  ⟨fun h => h.elim .inl fun k => .inr ⟨Int.le_trans (Int.le_of_lt h2) k.1, k.2⟩, fun h => h.elim .inl fun k => if d : x < q then .inl ⟨Int.le_trans h1 k.1, d⟩ else .inr ⟨Int.not_lt.mp d, k.2⟩⟩
theorem or_z1 {A B C D Z : Prop} (h : A ∨ B ∨ C ↔ B ∨ D) : A ∨ B ∨ Z ∨ C ↔ (B ∨ Z) ∨ D := by
  rw [or_right_comm, ← h, or_assoc, or_assoc, or_comm (a := Z)]
theorem or_z2 {B C D Z : Prop} (h : B ∨ C ↔ B ∨ D) : B ∨ Z ∨ C ↔ (B ∨ Z) ∨ D := by
  rw [or_right_comm, ← h, or_assoc, or_comm (a := Z)]
theorem jn_law : ∀ (k : Nat) (l : List (Int × Int)) (lo : Int), l.length ≤ k → Srt lo l → Can (lo - 1) (jn l) ∧ ∀ x, InI (jn l) x ↔ InI l x
  | _, [], _, _, _ => by rw [jn]; exact ⟨True.intro, fun _ => Iff.rfl⟩
  | _, [p], lo, _, ⟨a, b, _⟩ => by rw [jn]; exact ⟨⟨by (first | lia | omega), b, True.intro⟩, fun _ => Iff.rfl⟩
  | 0, _ :: _ :: _, _, h, _ => by simp at h
  | k + 1, p :: q :: r, lo, h, ⟨a, b, c, d, e⟩ => by
    simp only [List.length_cons] at h
    by_cases hpq : p.2 = q.1
    · rw [jn_eq hpq]
      obtain ⟨i1, i2⟩ := jn_law k ((p.1, q.2) :: r) lo (by simp only [List.length_cons]; (first | lia | omega)) ⟨a, by dsimp only; (first | lia | omega), e⟩
      refine ⟨i1, fun x => (i2 x).trans ?_⟩
      rw [InI_cons, InI_cons, InI_cons, ← or_assoc]
      dsimp only
      exact or_congr_left (by rw [← hpq]; exact iv_join (Int.le_of_lt b) (by rw [hpq]; exact Int.le_of_lt d))
    · rw [jn_ne hpq]
      obtain ⟨i1, i2⟩ := jn_law k (q :: r) (p.2 + 1) (by simp only [List.length_cons]; (first | lia | omega)) ⟨by (first | lia | omega), d, e⟩
      refine ⟨⟨by (first | lia | omega), b, i1.low (by (first | lia | omega))⟩, fun x => ?_⟩
      rw [InI_cons, InI_cons, i2 x]
theorem takeWhile_none {p : Int} {G : List (Int × Int)} (h : ∀ q ∈ G, p ≤ q.1) : (G.takeWhile fun q => decide (q.1 < p)) = [] ∧ (G.dropWhile fun q => decide (q.1 < p)) = G := by
  cases G with
  | nil => exact ⟨rfl, rfl⟩
  | cons q r =>
    have : decide (q.1 < p) = false := decide_eq_false (by have := h q (.head _); (first | lia | omega))
    rw [List.takeWhile_cons, List.dropWhile_cons, this]
    exact ⟨rfl, rfl⟩
theorem mrg_nil_r : ∀ (I : List (Int × Int)), mrg I [] = I
  | [] => rfl
  | p :: r => by rw [mrg]; show p :: mrg r [] = _; rw [mrg_nil_r r]
theorem mrg_law {v : Int} : ∀ (I : List (Int × Int)) (a lo : Int), Srt lo I → lo ≤ a → Srt lo (mrg I (miss v I a)) ∧ ∀ x, InI (mrg I (miss v I a)) x ↔ InI I x ∨ (a ≤ x ∧ x < v)
  | [], a, lo, _, h => by
    rw [mrg]
    simp only [miss]
    split
    · refine ⟨⟨h, by assumption, True.intro⟩, fun x => ?_⟩
      rw [InI_cons, or_comm]
    · refine ⟨True.intro, fun x => ⟨fun h => .inl h, fun h' => ?_⟩⟩
      rcases h' with h' | h'
      · exact h'
      · exact absurd h' (by (first | lia | omega))
  | p :: r, a, lo, ⟨h1, h2, h3⟩, h => by
    have I1 : ∀ p' ∈ r, p'.1 < p'.2 := by
      have : ∀ {r : List (Int × Int)} {lo : Int}, Srt lo r → ∀ p' ∈ r, p'.1 < p'.2 := by
        intro r
        induction r with
        | nil => intro _ _ _ hp; exact nomatch hp
        | cons q r ih =>
          intro lo ⟨_, b, c⟩ p' hp
          rcases List.mem_cons.mp hp with rfl | hp
          · exact b
          · exact ih c p' hp
      exact this h3
    by_cases c1 : p.2 ≤ a
    · obtain ⟨i1, i2⟩ := mrg_law (v := v) r a p.2 h3 c1
      obtain ⟨t1, t2⟩ := takeWhile_none (p := p.1) (G := miss v r a) fun q hq => by have := miss_in I1 q hq; (first | lia | omega)
      rw [miss_cont c1, mrg, t1, t2]
      refine ⟨⟨h1, h2, i1⟩, fun x => ?_⟩
      show InI (p :: mrg r (miss v r a)) x ↔ _
      rw [InI_cons, InI_cons, i2 x, or_assoc]
    · obtain ⟨i1, i2⟩ := mrg_law (v := v) r p.2 p.2 h3 (Int.le_refl _)
      obtain ⟨t1, t2⟩ := takeWhile_none (p := p.1) (G := miss v r p.2) fun q hq => by have := miss_in I1 q hq; (first | lia | omega)
      by_cases c2 : v ≤ p.1
      · rw [miss_brk c1 c2]
        simp only [miss]
        split
        · rename_i hav
          rw [mrg]
          have e1 : decide (a < p.1) = true := decide_eq_true (by (first | lia | omega))
          rw [List.takeWhile_cons, List.dropWhile_cons]
          dsimp only
          rw [e1]
          show Srt lo ((a, v) :: p :: mrg r []) ∧ ∀ x, InI ((a, v) :: p :: mrg r []) x ↔ _
          rw [mrg_nil_r]
          refine ⟨⟨h, hav, c2, h2, h3⟩, fun x => ?_⟩
          rw [InI_cons, or_comm]
        · rw [mrg_nil_r]
          refine ⟨⟨h1, h2, h3⟩, fun x => ⟨fun h => .inl h, fun h' => ?_⟩⟩
          rcases h' with h' | h'
          · exact h'
          · exact absurd h' (by (first | lia | omega))
      · by_cases c3 : a < p.1
        · rw [miss_gap c1 c2 c3, mrg]
          have e1 : decide (a < p.1) = true := decide_eq_true c3
          rw [List.takeWhile_cons, List.dropWhile_cons]
          dsimp only
          rw [e1]
          simp only [if_true]
          rw [t1, t2]
          show Srt lo ((a, p.1) :: p :: mrg r (miss v r p.2)) ∧ ∀ x, InI ((a, p.1) :: p :: mrg r (miss v r p.2)) x ↔ _
          refine ⟨⟨h, c3, Int.le_refl _, h2, i1⟩, fun x => ?_⟩
          rw [InI_cons, InI_cons, InI_cons, i2 x]
          exact or_z1 (iv_gap c3 h2 (Int.not_le.mp c2))
        · rw [miss_on c1 c2 c3, mrg, t1, t2]
          show Srt lo (p :: mrg r (miss v r p.2)) ∧ ∀ x, InI (p :: mrg r (miss v r p.2)) x ↔ _
          refine ⟨⟨h1, h2, i1⟩, fun x => ?_⟩
          rw [InI_cons, InI_cons, i2 x]
          exact or_z2 (iv_on (Int.not_lt.mp c3) (Int.not_le.mp c1))
theorem put_law {n u v : Int} {I : List (Int × Int)} (h : Can n I) : Can (n - 1) (putI n u v I) ∧ ∀ x, InI (putI n u v I) x ↔ InI I x ∨ (max n u ≤ x ∧ x < max n v) := by
  obtain ⟨i1, i2⟩ := mrg_law (v := max n v) I (max n u) n h.srt (by (first | lia | omega))
  unfold putI
  split
  · rename_i e
    rw [e, mrg_nil_r] at i2
    exact ⟨h.low (by (first | lia | omega)), i2⟩
  · obtain ⟨j1, j2⟩ := jn_law _ _ n (Nat.le_refl _) i1
    exact ⟨j1, fun x => (j2 x).trans (i2 x)⟩
theorem take_law {n : Int} {J : List (Int × Int)} (h : Can (n - 1) J) : n ≤ takeE n J ∧ Can (takeE n J) (takeI n J) ∧ (∀ p ∈ takeI n J, p ∈ J) ∧ (takeE n J = n ∨ ∃ p ∈ J, takeE n J = p.2) ∧ ∀ x, InI J x ↔ (n ≤ x ∧ x < takeE n J) ∨ InI (takeI n J) x := by
  cases J with
  | nil => exact ⟨Int.le_refl _, True.intro, fun _ hp => hp, .inl rfl, fun x => ⟨fun h => .inr h, fun h' => h'.elim (fun h => by simp only [takeE] at h; (first | lia | omega)) id⟩⟩
  | cons p r =>
    obtain ⟨a, b, c⟩ := h
    simp only [takeE, takeI]
    split
    · rename_i e
      refine ⟨by (first | lia | omega), c, fun q hq => .tail _ hq, .inr ⟨p, .head _, rfl⟩, fun x => ?_⟩
      rw [InI_cons, e]
    · rename_i e
      refine ⟨Int.le_refl _, ⟨by (first | lia | omega), b, c⟩, fun _ hp => hp, .inl rfl, fun x => ⟨fun h => .inr h, fun h' => h'.elim (fun h => by (first | lia | omega)) id⟩⟩
theorem cut_law {f : Int} : ∀ (I : List (Int × Int)) (lo : Int), Can lo I → Can lo (cutI f I) ∧ (∀ p ∈ cutI f I, p.2 ≤ f ∧ ∃ q ∈ I, p.2 ≤ q.2) ∧ ∀ x, InI (cutI f I) x ↔ InI I x ∧ x < f
  | [], lo, _ => ⟨True.intro, (fun _ hp => nomatch hp), fun x => ⟨fun h => (InI_nil h).elim, fun h => (InI_nil h.1).elim⟩⟩
  | p :: r, lo, ⟨h1, h2, h3⟩ => by
    obtain ⟨i1, i2, i3⟩ := cut_law (f := f) r p.2 h3
    by_cases c : p.1 < min p.2 f
    · rw [cutI_yes c]
      refine ⟨⟨h1, c, i1.low (Int.min_le_left _ _)⟩, ?_, fun x => ?_⟩
      · intro q hq
        rcases List.mem_cons.mp hq with rfl | hq
        · exact ⟨Int.min_le_right _ _, p, .head _, Int.min_le_left _ _⟩
        · obtain ⟨j1, q', j2, j3⟩ := i2 q hq
          exact ⟨j1, q', .tail _ j2, j3⟩
      · rw [InI_cons, InI_cons, i3 x]
        dsimp only
        rw [or_and_right, Int.lt_min, and_assoc]
    · rw [cutI_no c]
      refine ⟨i1.low (by (first | lia | omega)), ?_, fun x => ?_⟩
      · intro q hq
        obtain ⟨j1, q', j2, j3⟩ := i2 q hq
        exact ⟨j1, q', .tail _ j2, j3⟩
      · rw [InI_cons, i3 x]
        generalize hZ : InI r x = Z
        by_cases hz : Z
        · have := h3.gt (x := x) (hZ.symm ▸ hz)
          simp only [hz, true_and, or_true]
        · simp only [hz, false_and, or_false]
          exact ⟨False.elim, fun h => c (Int.lt_min.mpr ⟨h2, Int.lt_of_le_of_lt h.1.1 h.2⟩)⟩

theorem anew_18 : True := by w_top off; trivial
noncomputable def Apart (R P : Led) : Prop := ∀ q ∈ R, ∀ p ∈ P, q.1 ≠ p.1
noncomputable def NoTup (R : Led) : Prop := ∀ q ∈ R, ∀ u v, q.2 ≠ tup2 u v
noncomputable def SepA (R : Led) (a : Addr) : Prop := ∀ q ∈ R, q.1 ≠ a
theorem Apart.sep {R P : Led} {a : Addr} {o : Obj} (A : Apart R P) (h : (a, o) ∈ P) : SepA R a := fun q hq => A q hq (a, o) h
theorem barr_ne_inst {b : Array UInt8} {C dx : Addr} : barr b ≠ instObj C dx := fun e => by injection e with h; cases h
theorem barr_ne_list {b : Array UInt8} {l : Array Value} {n : Nat} : barr b ≠ listOf l n := fun e => by
  injection e with _ _ h
  cases h
theorem barr_ne_dict {b : Array UInt8} {l : List DictEntry} {n : Nat} : barr b ≠ dictOf l n := fun e => by
  injection e with _ _ h
  cases h
theorem barr_ne_tup {b : Array UInt8} {u v : Value} : barr b ≠ tup2 u v := fun e => by
  injection e with _ _ h
  cases h
theorem list_ne_inst {l : Array Value} {n : Nat} {C dx : Addr} : listOf l n ≠ instObj C dx := fun e => by injection e with h; cases h
theorem dict_ne_inst {l : List DictEntry} {n : Nat} {C dx : Addr} : dictOf l n ≠ instObj C dx := fun e => by injection e with h; cases h
theorem list_ne_dict {l : Array Value} {n : Nat} {k : List DictEntry} {j : Nat} : listOf l n ≠ dictOf k j := fun e => by
  injection e with _ _ h
  cases h
theorem dict_size_ne {l l' : List DictEntry} {n n' : Nat} (h : l.length ≠ l'.length) : dictOf l n ≠ dictOf l' n' := fun e => by
  injection e with _ _ h2
  injection h2 with h3
  first | (injection h3 with h4; injection h4 with h5; exact h (by simp_all)) | exact h (by simp_all)
section
variable {w : World} {h₀ h : Heap} {L : Addr} {r dr rb x dx l : Addr} {vs : List Value} {nn : Nat} {k0 k1 k2 k3 k4 k5 k6 k7 k8 k9 v0 v1 v2 v3 v6 a1 a2 a3 : Tok} {fv uv : Value} {S : RS} {n R P : Led}
theorem RAt.mono {n' : Led} (H : RAt w r dr rb x dx l vs nn k0 k1 k2 k3 k4 k5 k6 k7 k8 k9 v0 v1 v2 v3 v6 a1 a2 a3 fv uv S n) (hs : ∀ p ∈ n, p ∈ n') : RAt w r dr rb x dx l vs nn k0 k1 k2 k3 k4 k5 k6 k7 k8 k9 v0 v1 v2 v3 v6 a1 a2 a3 fv uv S n' :=
  ⟨H.hf, H.hu, hs _ H.mr, hs _ H.md, hs _ H.mb, hs _ H.mx, hs _ H.mdx, hs _ H.ml, H.mt.mono hs⟩
theorem Recv.mono {n' : Led} (H : Recv w r S n) (hs : ∀ p ∈ n, p ∈ n') : Recv w r S n' := by
  obtain ⟨dr, rb, x, dx, l, vs, nn, k0, k1, k2, k3, k4, k5, k6, k7, k8, k9, v0, v1, v2, v3, v6, a1, a2, a3, fv, uv, H⟩ := H
  exact ⟨dr, rb, x, dx, l, vs, nn, k0, k1, k2, k3, k4, k5, k6, k7, k8, k9, v0, v1, v2, v3, v6, a1, a2, a3, fv, uv, H.mono hs⟩
structure Six (r dr rb x dx l : Addr) (Rest : Led) : Prop where
  i1 : r ≠ dr
  i2 : r ≠ rb
  i3 : dr ≠ rb
  i4 : x ≠ r ∧ x ≠ dr ∧ x ≠ rb
  i5 : dx ≠ r ∧ dx ≠ dr ∧ dx ≠ rb
  i6 : l ≠ r ∧ l ≠ dr ∧ l ≠ rb
  j1 : ∀ p ∈ Rest, p.1 ≠ r
  j2 : ∀ p ∈ Rest, p.1 ≠ dr
  j3 : ∀ p ∈ Rest, p.1 ≠ rb
  j4 : ∀ p ∈ Rest, p.1 ≠ x
  j5 : ∀ p ∈ Rest, p.1 ≠ dx
  j6 : ∀ p ∈ Rest, p.1 ≠ l
/-- the receiver's six objects set apart from the rest of the ledger -/
theorem open6 (N : News h₀ L h n) (H : RAt w r dr rb x dx l vs nn k0 k1 k2 k3 k4 k5 k6 k7 k8 k9 v0 v1 v2 v3 v6 a1 a2 a3 fv uv S n) :
    ∃ Rest, News h₀ L h ((x, instObj 141 dx) :: (dx, asmD w a1 a2 S.ring a3 l) :: (l, listOf vs.toArray nn) :: (r, instObj 275 dr) :: (dr, recvD w k0 k1 k2 k3 k4 k5 k6 k7 k8 k9 v0 v1 v2 v3 v6 S.ring S.room (sq S.ring S.bs S.nx) (sq S.ring S.bs S.room) rb x fv S.over uv) :: (rb, barr (octs S.rd S.n)) :: Rest) ∧
      AsmOk x dx l S.ring S.bs vs S.I ((r, instObj 275 dr) :: (dr, recvD w k0 k1 k2 k3 k4 k5 k6 k7 k8 k9 v0 v1 v2 v3 v6 S.ring S.room (sq S.ring S.bs S.nx) (sq S.ring S.bs S.room) rb x fv S.over uv) :: (rb, barr (octs S.rd S.n)) :: Rest) ∧
      Six r dr rb x dx l Rest ∧ TupsIn Rest (sq S.ring S.bs) vs S.I ∧
      ∀ p ∈ n, p.1 ≠ r → p.1 ≠ dr → p.1 ≠ rb → p.1 ≠ x → p.1 ≠ dx → p.1 ≠ l → p ∈ Rest := by
  obtain ⟨hf, hu, mr, md, mb, mx, mdx, ml, mt⟩ := H
  have ne {a b : Addr} {o o' : Obj} (h1 : (a, o) ∈ n) (h2 : (b, o') ∈ n) (h3 : o ≠ o') : a ≠ b := fun e => h3 (News.one N (e ▸ h1) h2)
  have hrx : r ≠ x := ne mr mx fun e => by
    injection e with h
    injection h with h
    exact absurd h (by decide)
  have hdd : dr ≠ dx := ne md mdx (dict_size_ne fun e => by simp only [List.length_cons, List.length_nil] at e; (first | lia | omega))
  have t {a : Addr} {o : Obj} (h1 : (a, o) ∈ n) (h2 : ∀ u v, tup2 u v ≠ o) : ∀ b i t0 c t1, (b, tup2 (.int i t0) (.bytes c t1)) ∈ n → b ≠ a := fun b i t0 c t1 hb => ne hb h1 (h2 _ _)
  have tupR : TupsIn (n.filter fun p => decide (p.1 ≠ r ∧ p.1 ≠ dr ∧ p.1 ≠ rb ∧ p.1 ≠ x ∧ p.1 ≠ dx ∧ p.1 ≠ l)) (sq S.ring S.bs) vs S.I :=
    mt.monoT fun a i t0 b t1 ha => List.mem_filter.mpr ⟨ha, decide_eq_true ⟨t mr (fun _ _ => tup_ne_inst) _ _ _ _ _ ha, t md (fun _ _ => tup_ne_dict) _ _ _ _ _ ha, t mb (fun _ _ => barr_ne_tup.symm) _ _ _ _ _ ha, t mx (fun _ _ => tup_ne_inst) _ _ _ _ _ ha, t mdx (fun _ _ => tup_ne_dict) _ _ _ _ _ ha, t ml (fun _ _ => tup_ne_list) _ _ _ _ _ ha⟩⟩
  have f (p : Addr × Obj) (hp : p ∈ n.filter fun p => decide (p.1 ≠ r ∧ p.1 ≠ dr ∧ p.1 ≠ rb ∧ p.1 ≠ x ∧ p.1 ≠ dx ∧ p.1 ≠ l)) := of_decide_eq_true (List.mem_filter.mp hp).2
  refine ⟨n.filter fun p => decide (p.1 ≠ r ∧ p.1 ≠ dr ∧ p.1 ≠ rb ∧ p.1 ≠ x ∧ p.1 ≠ dx ∧ p.1 ≠ l), ?_, ⟨tupR.mono fun p hp => .tail _ (.tail _ (.tail _ hp)), ne mx mdx dict_ne_inst.symm, ne mx ml list_ne_inst.symm, ne mdx ml list_ne_dict.symm, ?_, ?_, ?_⟩,
    ⟨ne mr md dict_ne_inst.symm, ne mr mb barr_ne_inst.symm, ne md mb barr_ne_dict.symm, ⟨hrx.symm, ne mx md dict_ne_inst.symm, ne mx mb barr_ne_inst.symm⟩, ⟨ne mdx mr dict_ne_inst, hdd.symm, ne mdx mb barr_ne_dict.symm⟩, ⟨ne ml mr list_ne_inst, ne ml md list_ne_dict, ne ml mb barr_ne_list.symm⟩,
      fun p hp => (f p hp).1, fun p hp => (f p hp).2.1, fun p hp => (f p hp).2.2.1, fun p hp => (f p hp).2.2.2.1, fun p hp => (f p hp).2.2.2.2.1, fun p hp => (f p hp).2.2.2.2.2⟩, tupR, ?_⟩
  · intro p hp
    simp only [List.mem_cons] at hp
    rcases hp with rfl | rfl | rfl | rfl | rfl | rfl | hp
    · exact N _ mx
    · exact N _ mdx
    · exact N _ ml
    · exact N _ mr
    · exact N _ md
    · exact N _ mb
    · exact N _ (List.mem_filter.mp hp).1
  · exact all2 hrx (all2 (ne md mx dict_ne_inst) (all2 (ne mb mx barr_ne_inst) fun p hp => (f p hp).2.2.2.1))
  · exact all2 (ne mr mdx dict_ne_inst.symm) (all2 hdd (all2 (ne mb mdx barr_ne_dict) fun p hp => (f p hp).2.2.2.2.1))
  · exact all2 (ne mr ml list_ne_inst.symm) (all2 (ne md ml list_ne_dict.symm) (all2 (ne mb ml barr_ne_list) fun p hp => (f p hp).2.2.2.2.2))
  · intro p hp h1 h2 h3 h4 h5 h6
    exact List.mem_filter.mpr ⟨hp, decide_eq_true ⟨h1, h2, h3, h4, h5, h6⟩⟩
/-- the ledger of the caller and the receiver's, set apart again -/
theorem close6 (N : News h₀ L h n) (H : RAt w r dr rb x dx l vs nn k0 k1 k2 k3 k4 k5 k6 k7 k8 k9 v0 v1 v2 v3 v6 a1 a2 a3 fv uv S n) (hR : ∀ p ∈ R, p ∈ n) (T : NoTup R)
    (s1 : SepA R r) (s2 : SepA R dr) (s3 : SepA R rb) (s4 : SepA R x) (s5 : SepA R dx) (s6 : SepA R l) : ∃ P', News h₀ L h (R ++ P') ∧ Recv w r S P' ∧ Apart R P' := by
  obtain ⟨hf, hu, mr, md, mb, mx, mdx, ml, mt⟩ := H
  have g {a : Addr} {o : Obj} (h1 : (a, o) ∈ n) (h2 : SepA R a) : (a, o) ∈ n.filter fun p => R.all fun q => q.1 != p.1 :=
    List.mem_filter.mpr ⟨h1, List.all_eq_true.mpr fun q hq => bne_iff_ne.mpr (h2 q hq)⟩
  refine ⟨n.filter fun p => R.all fun q => q.1 != p.1, ?_, ⟨dr, rb, x, dx, l, vs, nn, k0, k1, k2, k3, k4, k5, k6, k7, k8, k9, v0, v1, v2, v3, v6, a1, a2, a3, fv, uv, hf, hu, g mr s1, g md s2, g mb s3, g mx s4, g mdx s5, g ml s6, ?_⟩, ?_⟩
  · intro p hp
    rcases List.mem_append.mp hp with hp | hp
    · exact N _ (hR _ hp)
    · exact N _ (List.mem_filter.mp hp).1
  · refine mt.monoT fun a i t b t' ha => g ha fun q hq e => T q hq (.int i t) (.bytes b t') ?_
    obtain ⟨qa, qo⟩ := q
    subst e
    exact News.one N (hR _ hq) ha
  · intro q hq p hp
    exact bne_iff_ne.mp (List.all_eq_true.mp (List.mem_filter.mp hp).2 q hq)
end

theorem anew_19 : True := by w_top off; trivial
inductive RPostN (w : World) (r : Addr) (R : Led) (S' : RS) (y : Value) (n' : Led) : Prop
  | mk : ∀ P', n' = R ++ P' → Recv w r S' P' → Apart R P' → y = .none → RPostN w r R S' y n'
inductive RPostI (w : World) (r : Addr) (R : Led) (S' : RS) (x : Int) (y : Value) (n' : Led) : Prop
  | mk : ∀ P' t, n' = R ++ P' → Recv w r S' P' → Apart R P' → y = .int x t → RPostI w r R S' x y n'
inductive RPostB (w : World) (r : Addr) (R : Led) (S' : RS) (x : Array UInt8) (y : Value) (n' : Led) : Prop
  | mk : ∀ P' t, n' = R ++ P' → Recv w r S' P' → Apart R P' → y = .bytes x t → RPostB w r R S' x y n'
inductive TupPost (w : World) (r : Addr) (R : Led) (S' : RS) (x : Int) (b : Bool) (y : Value) (n' : Led) : Prop
  | mk : ∀ T t P', n' = (T, tup2 (.int x t) (.bool b)) :: (R ++ P') → Recv w r S' P' → Apart R P' → (∀ p ∈ R ++ P', p.1 < T) → y = .ref T → TupPost w r R S' x b y n'
inductive NewPost (w : World) (R : Led) (S' : RS) (y : Value) (n' : Led) : Prop
  | mk : ∀ r P', n' = R ++ P' → Recv w r S' P' → Apart R P' → y = .ref r → NewPost w R S' y n'
noncomputable def RecvR (w : World) (r : Addr) (S : RS) (R P : Led) : Prop := Recv w r S P ∧ Apart R P
noncomputable def noteS (v : Int) (S : RS) : RS := if S.fin = none ∧ S.nx ≤ v then { S with fin := some v, I := cutI v S.I } else S
section
variable {w : World} {h₀ h : Heap} {L : Addr} {r dr rb x dx l : Addr} {vs : List Value} {nn : Nat} {k0 k1 k2 k3 k4 k5 k6 k7 k8 k9 v0 v1 v2 v3 v6 a1 a2 a3 : Tok} {fv uv : Value} {S : RS} {R Rest : Led}
/-- the receiver's six objects ahead of a rest: the caller's ledger and the receiver's set apart again -/
theorem shut6 (N : News h₀ L h ((x, instObj 141 dx) :: (dx, asmD w a1 a2 S.ring a3 l) :: (l, listOf vs.toArray nn) :: (r, instObj 275 dr) :: (dr, recvD w k0 k1 k2 k3 k4 k5 k6 k7 k8 k9 v0 v1 v2 v3 v6 S.ring S.room (sq S.ring S.bs S.nx) (sq S.ring S.bs S.room) rb x fv S.over uv) :: (rb, barr (octs S.rd S.n)) :: Rest))
    (hf : IsOpt S.ring S.bs fv S.fin) (hu : IsOpt S.ring S.bs uv S.urg) (tR : TupsIn Rest (sq S.ring S.bs) vs S.I) (hR : ∀ p ∈ R, p ∈ Rest) (T : NoTup R)
    (s1 : SepA R r) (s2 : SepA R dr) (s3 : SepA R rb) (s4 : SepA R x) (s5 : SepA R dx) (s6 : SepA R l) : ∃ P', News h₀ L h (R ++ P') ∧ Recv w r S P' ∧ Apart R P' :=
  close6 N ⟨hf, hu, .tail _ (.tail _ (.tail _ (.head _))), .tail _ (.tail _ (.tail _ (.tail _ (.head _)))), .tail _ (.tail _ (.tail _ (.tail _ (.tail _ (.head _))))), .head _, .tail _ (.head _), .tail _ (.tail _ (.head _)),
    tR.mono fun p hp => .tail _ (.tail _ (.tail _ (.tail _ (.tail _ (.tail _ hp)))))⟩ (fun p hp => .tail _ (.tail _ (.tail _ (.tail _ (.tail _ (.tail _ (hR p hp))))))) T s1 s2 s3 s4 s5 s6
end
section
variable {w : World} {mean : ExcName → Option Value} {mg mb : Str → Option Value} {R P : Led} {r : Addr} {S : RS}
theorem note_spec {v : Int} {tv : Tok} (H : Recv w r S P) (ap : Apart R P) (nt : NoTup R) (ok : ROk S) (hv : 0 ≤ v ∧ v ≤ 40) :
    Spec w mean mg mb 209 20 [.ref r, .int (sq S.ring S.bs v) tv] (R ++ P) (RPostN w r R (noteS v S)) := by
  obtain ⟨dr, rb, x, dx, l, vs, nn, k0, k1, k2, k3, k4, k5, k6, k7, k8, k9, v0, v1, v2, v3, v6, a1, a2, a3, fv, uv, H⟩ := id H
  have h1 := ok.ring
  have h2 := ok.room
  have h3 := ok.rd
  have h4 := ok.n
  have hp := ok.parts
  have hl := ok.len
  have h5 : S.over = true ∧ S.nx = S.n + 1 ∨ S.over = false ∧ S.nx = S.n := by unfold RS.nx; cases S.over <;> simp
  unfold Spec; k_fill; intro dp un gd cn cs a' ccd cl outer A₀ base h₀ L m s Q E B F X N T hk hdp hun hret
  obtain ⟨Rest, N6, okA, ⟨e1, e2, e3, ⟨e4, e5, e6⟩, ⟨e7, e8, e9⟩, ⟨e10, e11, e12⟩, q1, q2, q3, q4, q5, q6⟩, tR, sub⟩ := open6 N (H.mono fun p hp => List.mem_append.mpr (.inr hp))
  have hR : ∀ p ∈ R, p ∈ Rest := fun p hp => sub p (List.mem_append.mpr (.inl hp)) (ap.sep H.mr p hp) (ap.sep H.md p hp) (ap.sep H.mb p hp) (ap.sep H.mx p hp) (ap.sep H.mdx p hp) (ap.sep H.ml p hp)
  have s1 := ap.sep H.mr
  have s2 := ap.sep H.md
  have s3 := ap.sep H.mb
  have s4 := ap.sep H.mx
  have s5 := ap.sep H.mdx
  have s6 := ap.sep H.ml
  obtain ⟨hf, hu, -, -, -, -, -, -, -⟩ := H
  obtain ⟨-, xd, xl, dl, -, -, -⟩ := id okA
  clear N sub ap
  cases hfin : S.fin with
  | some f =>
    have hf' := hf
    rw [hfin] at hf'
    obtain ⟨tf, rfl⟩ := hf'
    have eS : noteS v S = S := if_neg (by rw [hfin]; exact fun h => nomatch h.1)
    rw [eS] at hret
    refine wpAny_call ?_
    k_dflt (refine' code_defM [("place", .int (sq S.ring S.bs v) tv), ("self", .ref r)] ?k1 ?k2 ?k3 ?k4 ?k5 ?kA ?kF ?kK ?k6 ?k7 ?k8 ?k9 ?kB ?_ ?c2 ?c3 ?c4 ?c5; walk_at "mine enter")
    k_steps
    rename News _ _ _ _ => N9
    obtain ⟨P', N', H', A'⟩ := shut6 N9 hf hu tR hR nt s1 s2 s3 s4 s5 s6
    exact hret _ _ _ _ (by k_asm) N' ⟨P', rfl, H', A', rfl⟩
  | none =>
    have hf' := hf
    rw [hfin] at hf'
    obtain rfl : fv = .none := hf'
    have ho : S.over = false := by
      cases h : S.over
      · rfl
      · have := (ok.over h).2; rw [hfin] at this; cases this
    have h6 : S.nx = S.n := by unfold RS.nx; rw [ho]; rfl
    refine wpAny_call ?_
    k_dflt (refine' code_defM [("place", .int (sq S.ring S.bs v) tv), ("self", .ref r)] ?k1 ?k2 ?k3 ?k4 ?k5 ?kA ?kF ?kK ?k6 ?k7 ?k8 ?k9 ?kB ?_ ?c2 ?c3 ?c4 ?c5; walk_at "mine enter")
    k_steps
    · rename News _ _ _ _ => N9
      have eS : noteS v S = S := if_neg (fun h => by have := h.2; (first | lia | omega))
      rw [eS] at hret
      obtain ⟨P', N', H', A'⟩ := shut6 N9 hf hu tR hR nt s1 s2 s3 s4 s5 s6
      exact hret _ _ _ _ (by k_asm) N' ⟨P', rfl, H', A', rfl⟩
    · have eS : noteS v S = { S with fin := some v, I := cutI v S.I } := if_pos ⟨hfin, by (first | lia | omega)⟩
      rw [eS] at hret
      rename News _ _ _ _ => N9
      have okB : AsmOk x dx l S.ring S.bs vs S.I ((r, instObj 275 dr) :: (dr, recvD w k0 k1 k2 k3 k4 k5 k6 k7 k8 k9 v0 v1 v2 v3 v6 S.ring S.room (sq S.ring S.bs S.nx) (sq S.ring S.bs S.room) rb x (.int (sq S.ring S.bs v) tv) S.over uv) :: (rb, barr (octs S.rd S.n)) :: Rest) :=
        ⟨tR.mono fun p hp => .tail _ (.tail _ (.tail _ hp)), xd, xl, dl, all2 (Ne.symm e4) (all2 (Ne.symm e5) (all2 (Ne.symm e6) q4)), all2 (Ne.symm e7) (all2 (Ne.symm e8) (all2 (Ne.symm e9) q5)), all2 (Ne.symm e10) (all2 (Ne.symm e11) (all2 (Ne.symm e12) q6))⟩
      k_dflt (refine' Spec.use (cut_spec (nn := nn) (n := S.nx) okB ?hI ?hIl ?h1 ?h2) ?B ?F ?X N9 ?T ?hk ?hd ?hu ?_; (case B => k_asm); (case F => k_asm); (case X => k_asm); (case T => k_asm); (case hk => rfl); (case hd => walk_at "mine room"); (case hu => walk_at "mine units"); (case hI => (intro p hp'; have := hp p hp'; (first | lia | omega))); (case hIl => (first | lia | omega)); (case h1 => exact h1); (case h2 => walk_at "mine om"))
      rintro r9 n1 h9 tk9 F9 N9' ⟨l', vs', nn', R', rfl, hs, ok', rfl⟩
      clear N9 N6
      (try dsimp only)
      (try k_sweep)
      (try k_fold)
      k_steps
      rename News _ _ _ _ => N8
      have m1 := hs _ (.head _)
      have m2 := hs _ (.tail _ (.head _))
      have m3 := hs _ (.tail _ (.tail _ (.head _)))
      have hR' : ∀ p ∈ R, p ∈ R' := fun p hp => hs _ (.tail _ (.tail _ (.tail _ (hR p hp))))
      obtain ⟨P', N', H', A'⟩ := close6 (S := { S with fin := some v, I := cutI v S.I }) N8 ⟨⟨tv, rfl⟩, hu, .tail _ (.tail _ (.tail _ m1)), .tail _ (.tail _ (.tail _ m2)), .tail _ (.tail _ (.tail _ m3)), .head _, .tail _ (.head _), .tail _ (.tail _ (.head _)), ok'.tups.mono fun p hp => .tail _ (.tail _ (.tail _ hp))⟩
        (fun p hp => .tail _ (.tail _ (.tail _ (hR' p hp)))) nt s1 s2 s3 s4 s5 (fun p hp => ok'.rl p (hR' p hp))
      exact hret _ _ _ _ (by k_asm) N' ⟨P', rfl, H', A', rfl⟩
end

theorem anew_20 : True := by w_top off; trivial
noncomputable def urgS (p : Int) (S : RS) : RS := if (∀ u, S.urg = some u → u < p) ∧ S.rd < p then { S with urg := some p } else S
noncomputable def leftS (S : RS) : RS := if ∃ u, S.urg = some u ∧ u ≤ S.rd then { S with urg := none } else S
noncomputable def leftV (S : RS) : Int := match S.urg with
  | none => 0
  | some u => max 0 (u - S.rd)
noncomputable def readS (k : Int) (S : RS) : RS := { S with rd := min S.n (S.rd + k) }
section
variable {w : World} {mean : ExcName → Option Value} {mg mb : Str → Option Value} {R P : Led} {r : Addr} {S : RS}
end
theorem say_20_1 : True := by
  k_with "call ref" => ((k_here; (with_reducible show wpAny _ _ (call (Value.ref 258) _) _ _ _); k_dflt (
  (refine' Spec.useI (read_place_spec ?h1 ?h2) ?B ?F ?X ?N ?T ?hk ?hd ?hu ?_; walk_at "mine use"; (case h1 => walk_at "mine recv"); (case h2 => assumption)); intro tZ' hZ' tkZ' FZ' NZ'; (try dsimp only); (try k_sweep); (try k_fold))))
  trivial
theorem say_20_2 : True := by
  k_with "mine recv" => (first | assumption | (refine Recv.mono ?_ (by assumption); intro p9Z hp9Z; k_ownIn))
  trivial
section
variable {w : World} {mean : ExcName → Option Value} {mg mb : Str → Option Value} {R P : Led} {r : Addr} {S : RS}
theorem urgent_spec {p : Int} {tp : Tok} (H : Recv w r S P) (ap : Apart R P) (nt : NoTup R) (ok : ROk S) (hv : -3 ≤ p ∧ p ≤ 40) :
    Spec w mean mg mb 265 12 [.ref r, .int (sq S.ring S.bs p) tp] (R ++ P) (RPostN w r R (urgS p S)) := by
  obtain ⟨dr, rb, x, dx, l, vs, nn, k0, k1, k2, k3, k4, k5, k6, k7, k8, k9, v0, v1, v2, v3, v6, a1, a2, a3, fv, uv, H⟩ := id H
  have h1 := ok.ring
  have h2 := ok.room
  have h3 := ok.rd
  have h4 := ok.n
  have h8 := ok.urg
  unfold Spec; k_fill; intro dp un gd cn cs a' ccd cl outer A₀ base h₀ L m s Q E B F X N T hk hdp hun hret
  obtain ⟨Rest, N6, okA, ⟨e1, e2, e3, ⟨e4, e5, e6⟩, ⟨e7, e8, e9⟩, ⟨e10, e11, e12⟩, q1, q2, q3, q4, q5, q6⟩, tR, sub⟩ := open6 N (H.mono fun p hp => List.mem_append.mpr (.inr hp))
  have hR : ∀ p ∈ R, p ∈ Rest := fun p hp => sub p (List.mem_append.mpr (.inl hp)) (ap.sep H.mr p hp) (ap.sep H.md p hp) (ap.sep H.mb p hp) (ap.sep H.mx p hp) (ap.sep H.mdx p hp) (ap.sep H.ml p hp)
  have s1 := ap.sep H.mr
  have s2 := ap.sep H.md
  have s3 := ap.sep H.mb
  have s4 := ap.sep H.mx
  have s5 := ap.sep H.mdx
  have s6 := ap.sep H.ml
  obtain ⟨hf, hu, -, -, -, -, -, -, -⟩ := H
  obtain ⟨-, xd, xl, dl, -, -, -⟩ := id okA
  have R6 : Recv w r S ((x, instObj 141 dx) :: (dx, asmD w a1 a2 S.ring a3 l) :: (l, listOf vs.toArray nn) :: (r, instObj 275 dr) :: (dr, recvD w k0 k1 k2 k3 k4 k5 k6 k7 k8 k9 v0 v1 v2 v3 v6 S.ring S.room (sq S.ring S.bs S.nx) (sq S.ring S.bs S.room) rb x fv S.over uv) :: (rb, barr (octs S.rd S.n)) :: Rest) :=
    ⟨dr, rb, x, dx, l, vs, nn, k0, k1, k2, k3, k4, k5, k6, k7, k8, k9, v0, v1, v2, v3, v6, a1, a2, a3, fv, uv, hf, hu, .tail _ (.tail _ (.tail _ (.head _))), .tail _ (.tail _ (.tail _ (.tail _ (.head _)))), .tail _ (.tail _ (.tail _ (.tail _ (.tail _ (.head _))))), .head _, .tail _ (.head _), .tail _ (.tail _ (.head _)),
    tR.mono fun p hp => .tail _ (.tail _ (.tail _ (.tail _ (.tail _ (.tail _ hp)))))⟩
  clear N sub ap okA
  cases hurg : S.urg with
  | some u =>
    have hu' := hu
    rw [hurg] at hu'
    obtain ⟨tu, rfl⟩ := hu'
    have h9 := h8 u (by rw [hurg]; exact rfl)
    refine wpAny_call ?_
    k_dflt (refine' code_defM [("pointer", .int (sq S.ring S.bs p) tp), ("self", .ref r)] ?k1 ?k2 ?k3 ?k4 ?k5 ?kA ?kF ?kK ?k6 ?k7 ?k8 ?k9 ?kB ?_ ?c2 ?c3 ?c4 ?c5; walk_at "mine enter")
    k_steps
    · rename News _ _ _ _ => N9
      rw [show urgS p S = { S with urg := some p } from if_pos ⟨fun u' hu' => by rw [hurg] at hu'; injection hu' with hu'; (first | lia | omega), by assumption⟩] at hret
      obtain ⟨P', N', H', A'⟩ := shut6 (S := { S with urg := some p }) N9 hf ⟨_, rfl⟩ tR hR nt s1 s2 s3 s4 s5 s6
      exact hret _ _ _ _ (by k_asm) N' ⟨P', rfl, H', A', rfl⟩
    · rename News _ _ _ _ => N9
      rw [show urgS p S = S from if_neg (fun h => by have := h.2; (first | lia | omega))] at hret
      obtain ⟨P', N', H', A'⟩ := shut6 N9 hf hu tR hR nt s1 s2 s3 s4 s5 s6
      exact hret _ _ _ _ (by k_asm) N' ⟨P', rfl, H', A', rfl⟩
    · rename News _ _ _ _ => N9
      rw [show urgS p S = S from if_neg (fun h => by have := h.1 u hurg; (first | lia | omega))] at hret
      obtain ⟨P', N', H', A'⟩ := shut6 N9 hf hu tR hR nt s1 s2 s3 s4 s5 s6
      exact hret _ _ _ _ (by k_asm) N' ⟨P', rfl, H', A', rfl⟩
  | none =>
    have hu' := hu
    rw [hurg] at hu'
    obtain rfl : uv = .none := hu'
    refine wpAny_call ?_
    k_dflt (refine' code_defM [("pointer", .int (sq S.ring S.bs p) tp), ("self", .ref r)] ?k1 ?k2 ?k3 ?k4 ?k5 ?kA ?kF ?kK ?k6 ?k7 ?k8 ?k9 ?kB ?_ ?c2 ?c3 ?c4 ?c5; walk_at "mine enter")
    k_steps
    · rename News _ _ _ _ => N9
      rw [show urgS p S = { S with urg := some p } from if_pos ⟨fun u' hu' => by rw [hurg] at hu'; exact (nomatch hu'), by assumption⟩] at hret
      obtain ⟨P', N', H', A'⟩ := shut6 (S := { S with urg := some p }) N9 hf ⟨_, rfl⟩ tR hR nt s1 s2 s3 s4 s5 s6
      exact hret _ _ _ _ (by k_asm) N' ⟨P', rfl, H', A', rfl⟩
    · rename News _ _ _ _ => N9
      rw [show urgS p S = S from if_neg (fun h => by have := h.2; (first | lia | omega))] at hret
      obtain ⟨P', N', H', A'⟩ := shut6 N9 hf hu tR hR nt s1 s2 s3 s4 s5 s6
      exact hret _ _ _ _ (by k_asm) N' ⟨P', rfl, H', A', rfl⟩
theorem urgent_left_spec (H : Recv w r S P) (ap : Apart R P) (nt : NoTup R) (ok : ROk S) :
    Spec w mean mg mb 272 12 [.ref r] (R ++ P) (RPostI w r R (leftS S) (leftV S)) := by
  obtain ⟨dr, rb, x, dx, l, vs, nn, k0, k1, k2, k3, k4, k5, k6, k7, k8, k9, v0, v1, v2, v3, v6, a1, a2, a3, fv, uv, H⟩ := id H
  have h1 := ok.ring
  have h2 := ok.room
  have h3 := ok.rd
  have h4 := ok.n
  have h8 := ok.urg
  unfold Spec; k_fill; intro dp un gd cn cs a' ccd cl outer A₀ base h₀ L m s Q E B F X N T hk hdp hun hret
  obtain ⟨Rest, N6, okA, ⟨e1, e2, e3, ⟨e4, e5, e6⟩, ⟨e7, e8, e9⟩, ⟨e10, e11, e12⟩, q1, q2, q3, q4, q5, q6⟩, tR, sub⟩ := open6 N (H.mono fun p hp => List.mem_append.mpr (.inr hp))
  have hR : ∀ p ∈ R, p ∈ Rest := fun p hp => sub p (List.mem_append.mpr (.inl hp)) (ap.sep H.mr p hp) (ap.sep H.md p hp) (ap.sep H.mb p hp) (ap.sep H.mx p hp) (ap.sep H.mdx p hp) (ap.sep H.ml p hp)
  have s1 := ap.sep H.mr
  have s2 := ap.sep H.md
  have s3 := ap.sep H.mb
  have s4 := ap.sep H.mx
  have s5 := ap.sep H.mdx
  have s6 := ap.sep H.ml
  obtain ⟨hf, hu, -, -, -, -, -, -, -⟩ := H
  obtain ⟨-, xd, xl, dl, -, -, -⟩ := id okA
  have R6 : Recv w r S ((x, instObj 141 dx) :: (dx, asmD w a1 a2 S.ring a3 l) :: (l, listOf vs.toArray nn) :: (r, instObj 275 dr) :: (dr, recvD w k0 k1 k2 k3 k4 k5 k6 k7 k8 k9 v0 v1 v2 v3 v6 S.ring S.room (sq S.ring S.bs S.nx) (sq S.ring S.bs S.room) rb x fv S.over uv) :: (rb, barr (octs S.rd S.n)) :: Rest) :=
    ⟨dr, rb, x, dx, l, vs, nn, k0, k1, k2, k3, k4, k5, k6, k7, k8, k9, v0, v1, v2, v3, v6, a1, a2, a3, fv, uv, hf, hu, .tail _ (.tail _ (.tail _ (.head _))), .tail _ (.tail _ (.tail _ (.tail _ (.head _)))), .tail _ (.tail _ (.tail _ (.tail _ (.tail _ (.head _))))), .head _, .tail _ (.head _), .tail _ (.tail _ (.head _)),
    tR.mono fun p hp => .tail _ (.tail _ (.tail _ (.tail _ (.tail _ (.tail _ hp)))))⟩
  clear N sub ap okA
  cases hurg : S.urg with
  | some u =>
    have hu' := hu
    rw [hurg] at hu'
    obtain ⟨tu, rfl⟩ := hu'
    have h9 := h8 u (by rw [hurg]; exact rfl)
    refine wpAny_call ?_
    k_dflt (refine' code_defM [("self", .ref r)] ?k1 ?k2 ?k3 ?k4 ?k5 ?kA ?kF ?kK ?k6 ?k7 ?k8 ?k9 ?kB ?_ ?c2 ?c3 ?c4 ?c5; walk_at "mine enter")
    k_steps
    · rename News _ _ _ _ => N9
      rw [show leftS S = S from if_neg (fun h => by obtain ⟨u', hu', h⟩ := h; rw [hurg] at hu'; injection hu' with hu'; (first | lia | omega)), show leftV S = u - S.rd by unfold leftV; rw [hurg]; dsimp only; (first | lia | omega)] at hret
      obtain ⟨P', N', H', A'⟩ := shut6 N9 hf hu tR hR nt s1 s2 s3 s4 s5 s6
      exact hret _ _ _ _ (by k_asm) N' ⟨P', _, rfl, H', A', rfl⟩
    · rename News _ _ _ _ => N9
      rw [show leftS S = { S with urg := none } from if_pos ⟨u, hurg, by (first | lia | omega)⟩, show leftV S = 0 by unfold leftV; rw [hurg]; dsimp only; (first | lia | omega)] at hret
      obtain ⟨P', N', H', A'⟩ := shut6 (S := { S with urg := none }) N9 hf rfl tR hR nt s1 s2 s3 s4 s5 s6
      exact hret _ _ _ _ (by k_asm) N' ⟨P', _, rfl, H', A', rfl⟩
  | none =>
    have hu' := hu
    rw [hurg] at hu'
    obtain rfl : uv = .none := hu'
    refine wpAny_call ?_
    k_dflt (refine' code_defM [("self", .ref r)] ?k1 ?k2 ?k3 ?k4 ?k5 ?kA ?kF ?kK ?k6 ?k7 ?k8 ?k9 ?kB ?_ ?c2 ?c3 ?c4 ?c5; walk_at "mine enter")
    k_steps
    rename News _ _ _ _ => N9
    rw [show leftS S = S from if_neg (fun h => by obtain ⟨u, hu, _⟩ := h; rw [hurg] at hu; exact (nomatch hu)), show leftV S = 0 by unfold leftV; rw [hurg]] at hret
    obtain ⟨P', N', H', A'⟩ := shut6 N9 hf hu tR hR nt s1 s2 s3 s4 s5 s6
    exact hret _ _ _ _ (by k_asm) N' ⟨P', _, rfl, H', A', rfl⟩
theorem read_spec {k : Int} {tk : Tok} (H : Recv w r S P) (ap : Apart R P) (nt : NoTup R) (ok : ROk S) (hk : 0 ≤ k) :
    Spec w mean mg mb 244 12 [.ref r, .int k tk] (R ++ P) (RPostB w r R (readS k S) (octs S.rd (min S.n (S.rd + k)))) := by
  obtain ⟨dr, rb, x, dx, l, vs, nn, k0, k1, k2, k3, k4, k5, k6, k7, k8, k9, v0, v1, v2, v3, v6, a1, a2, a3, fv, uv, H⟩ := id H
  have h1 := ok.ring
  have h2 := ok.room
  have h3 := ok.rd
  have h4 := ok.n
  have h8 := ok.urg
  unfold Spec; k_fill; intro dp un gd cn cs a' ccd cl outer A₀ base h₀ L m s Q E B F X N T hk hdp hun hret
  obtain ⟨Rest, N6, okA, ⟨e1, e2, e3, ⟨e4, e5, e6⟩, ⟨e7, e8, e9⟩, ⟨e10, e11, e12⟩, q1, q2, q3, q4, q5, q6⟩, tR, sub⟩ := open6 N (H.mono fun p hp => List.mem_append.mpr (.inr hp))
  have hR : ∀ p ∈ R, p ∈ Rest := fun p hp => sub p (List.mem_append.mpr (.inl hp)) (ap.sep H.mr p hp) (ap.sep H.md p hp) (ap.sep H.mb p hp) (ap.sep H.mx p hp) (ap.sep H.mdx p hp) (ap.sep H.ml p hp)
  have s1 := ap.sep H.mr
  have s2 := ap.sep H.md
  have s3 := ap.sep H.mb
  have s4 := ap.sep H.mx
  have s5 := ap.sep H.mdx
  have s6 := ap.sep H.ml
  obtain ⟨hf, hu, -, -, -, -, -, -, -⟩ := H
  obtain ⟨-, xd, xl, dl, -, -, -⟩ := id okA
  have R6 : Recv w r S ((x, instObj 141 dx) :: (dx, asmD w a1 a2 S.ring a3 l) :: (l, listOf vs.toArray nn) :: (r, instObj 275 dr) :: (dr, recvD w k0 k1 k2 k3 k4 k5 k6 k7 k8 k9 v0 v1 v2 v3 v6 S.ring S.room (sq S.ring S.bs S.nx) (sq S.ring S.bs S.room) rb x fv S.over uv) :: (rb, barr (octs S.rd S.n)) :: Rest) :=
    ⟨dr, rb, x, dx, l, vs, nn, k0, k1, k2, k3, k4, k5, k6, k7, k8, k9, v0, v1, v2, v3, v6, a1, a2, a3, fv, uv, hf, hu, .tail _ (.tail _ (.tail _ (.head _))), .tail _ (.tail _ (.tail _ (.tail _ (.head _)))), .tail _ (.tail _ (.tail _ (.tail _ (.tail _ (.head _))))), .head _, .tail _ (.head _), .tail _ (.tail _ (.head _)),
    tR.mono fun p hp => .tail _ (.tail _ (.tail _ (.tail _ (.tail _ (.tail _ hp)))))⟩
  clear N sub ap okA
  refine wpAny_call ?_
  k_dflt (refine' code_defM [("many", .int k tk), ("self", .ref r)] ?k1 ?k2 ?k3 ?k4 ?k5 ?kA ?kF ?kK ?k6 ?k7 ?k8 ?k9 ?kB ?_ ?c2 ?c3 ?c4 ?c5; walk_at "mine enter")
  k_steps
  rename News _ _ _ _ => N9
  rename _ < _ ∧ x < _ ∧ dx < _ ∧ l < _ ∧ r < _ ∧ dr < _ ∧ rb < _ ∧ AllLt _ Rest => hl1
  rw [show S.rd + (min S.n (S.rd + k) - S.rd) = min S.n (S.rd + k) by (first | lia | omega)] at N9
  obtain ⟨P', N', H', A'⟩ := close6 (S := readS k S) N9 ⟨hf, hu, .tail _ (.tail _ (.tail _ (.tail _ (.tail _ (.head _))))), .tail _ (.tail _ (.tail _ (.tail _ (.tail _ (.tail _ (.head _)))))), .head _, .tail _ (.tail _ (.head _)), .tail _ (.tail _ (.tail _ (.head _))), .tail _ (.tail _ (.tail _ (.tail _ (.head _)))),
    tR.mono fun p hp => .tail _ (.tail _ (.tail _ (.tail _ (.tail _ (.tail _ (.tail _ (.tail _ hp)))))))⟩ (fun p hp => .tail _ (.tail _ (.tail _ (.tail _ (.tail _ (.tail _ (.tail _ (.tail _ (hR p hp))))))))) nt s1 s2
    (fun p hp => allLt_ne hl1.2.2.2.2.2.2.2 p (hR p hp)) s4 s5 s6
  exact hret _ _ _ _ (by k_asm) N' ⟨P', _, rfl, H', A', rfl⟩
end

theorem anew_21 : True := by w_top off; trivial
/-- a contract at clean stacks -/
noncomputable def SpecC (w : World) (mean : ExcName → Option Value) (mg mb : Str → Option Value) (f : Addr) (k : Nat) (vs : List Value) (news : Led) (Post : Value → Led → Prop) : Prop :=
  ∀ (dp un : Nat) (gd : Option (List Code)) (cn : Str) (cs : Scope) (a : Addr) (ccd : Value) (cl : List (Str × Addr)) (outer : List Env) (A₀ : Around) (base h₀ : Heap) (L : Addr) (m : Str → Option Value) (s : Shared) (Q E : Value → Shared → Prop),
    Below A₀ base outer h₀ → Fr h₀ L s.heap m → (hd.heap_39 w.params).In h₀ → News h₀ L s.heap news → Top hd.view_39 (looseW hd.view_39 []) mean mg mb h₀ → cs.kind = .function → dp + k < recursionLimit → un + 8 * k < cLine →
    (∀ r news' h' tk', Fr h₀ L h' m → News h₀ L h' news' → Post r news' → Q r { s with heap := h', toks := tk' }) →
    wpC (model PySem.Challenge.rw_on0345_01.row.prog w) (ktrTop dp un gd cn cs L a ccd cl outer) (call (.ref f) vs) Q E s
theorem SpecC.use {w : World} {mean : ExcName → Option Value} {mg mb : Str → Option Value} {f : Addr} {k : Nat} {vs : List Value} {news : Led} {Post : Value → Led → Prop}
    {dp un : Nat} {gd : Option (List Code)} {cn : Str} {cs : Scope} {a : Addr} {ccd : Value} {cl : List (Str × Addr)} {outer : List Env} {A₀ : Around} {base h₀ : Heap} {L : Addr} {m : Str → Option Value} {s : Shared} {Q E : Value → Shared → Prop}
    (C : SpecC w mean mg mb f k vs news Post) (B : Below A₀ base outer h₀) (F : Fr h₀ L s.heap m) (X : (hd.heap_39 w.params).In h₀) (N : News h₀ L s.heap news) (T : Top hd.view_39 (looseW hd.view_39 []) mean mg mb h₀) (hk : cs.kind = .function)
    (hd : dp + k < recursionLimit) (hu : un + 8 * k < cLine)
    (ret : ∀ r news' h' tk', Fr h₀ L h' m → News h₀ L h' news' → Post r news' → Q r { s with heap := h', toks := tk' }) :
    wpC (model PySem.Challenge.rw_on0345_01.row.prog w) (ktrTop dp un gd cn cs L a ccd cl outer) (call (.ref f) vs) Q E s :=
  C _ _ _ _ _ _ _ _ _ _ _ _ _ _ _ _ _ B F X N T hk hd hu ret
theorem method_ba {M : Model} {A : Around} {E : Value → Shared → Prop} {s : Shared} {a : Addr} {b : Array UInt8} {pl : Sem Bool} {h₀ : Heap} {L : Addr} {news : Led} {Q : Value × List Value → Shared → Prop} (N : News h₀ L s.heap news) (hm : (a, barr b) ∈ news) (q : Q (.builtin "bytearray.extend", [.ref a]) s) : wpAny M A (getMethod (.ref a) "extend" pl) Q E s :=
  getMethod_builtin (barr_type (N _ hm).1) FA.plain_ba FA.slot_ext FA.type_ext (fun a' e => by cases e; exact ⟨_, (N _ hm).1, rfl⟩) q
theorem say_21_1 : True := by
  k_with "getMethod ref" => ((k_here; (with_reducible rename News _ _ _ _ => NZ'); refine' method_ba NZ' ?hm ?_; (case hm => k_mem)))
  trivial
theorem extend_O {prog : Program} {w : World} {A : Around} {E : Value → Shared → Prop} {s : Shared} {a : Addr} {c : Array UInt8} {t : Tok} {h₀ : Heap} {L : Addr} {m : PySem.Str → Option Value} {news news' : Led} {Q : Value → Shared → Prop} {p q r : Int} (F : Fr h₀ L s.heap m) (N : News h₀ L s.heap news) (hc : c = octs q r) (h0 : 0 ≤ p ∧ p ≤ q ∧ q ≤ r ∧ r ≤ 1000000)
    (U : Upd a (barr (octs p q)) (barr (octs p r)) news news') (h : ∀ h', Fr h₀ L h' m → News h₀ L h' news' → Q .none { s with heap := h' }) :
    wpC (model prog w) A (call (.builtin "bytearray.extend") [.ref a, .bytes c t]) Q E s := by
  obtain ⟨h1, h2, h3, h4⟩ := h0
  refine call_extend F N (b := octs p q) (news' := news') ?_ ?_ h
  · rw [hc, octs_append h1 h2 h3]; exact U
  · rw [hc, octs_size, octs_size, sizeLine_eq]; (first | lia | omega)
theorem tups3 {r dr rb : Addr} {C : Addr} {es : List DictEntry} {k : Nat} {b : Array UInt8} {Rest : Led} {g : Int → Int} {vs : List Value} {I : List (Int × Int)} (h : TupsIn ((r, instObj C dr) :: (dr, dictOf es k) :: (rb, barr b) :: Rest) g vs I) : TupsIn Rest g vs I :=
  h.monoT fun a i t b t' ha => by
    rcases List.mem_cons.mp ha with e | ha
    · exact absurd (congrArg Prod.snd e) tup_ne_inst
    rcases List.mem_cons.mp ha with e | ha
    · exact absurd (congrArg Prod.snd e) tup_ne_dict
    rcases List.mem_cons.mp ha with e | ha
    · exact absurd (congrArg Prod.snd e).symm barr_ne_tup
    exact ha
noncomputable def gathE (S : RS) : Int := if S.over = true then S.n else takeE S.n S.I
noncomputable def gathS (S : RS) : RS := { S with n := gathE S, I := if S.over = true then S.I else takeI S.n S.I, over := S.over || decide (S.fin = some (gathE S)) }
section
variable {w : World} {mean : ExcName → Option Value} {mg mb : Str → Option Value} {R P : Led} {r : Addr} {S : RS}
theorem gather_spec (H : Recv w r S P) (ap : Apart R P) (nt : NoTup R) (h1 : 256 ≤ S.ring) (h2 : 8 ≤ S.room ∧ S.room ≤ 20) (h3 : 0 ≤ S.rd ∧ S.rd ≤ S.n) (h4 : S.n ≤ S.room) (hI : ∀ p ∈ S.I, S.n ≤ p.1 ∧ p.1 < p.2 ∧ p.2 ≤ S.room) (hl : S.I.length ≤ 64) (h7 : ∀ f ∈ S.fin, S.n ≤ f ∧ f ≤ 40) (h8 : S.over = true → S.fin = some S.n) :
    SpecC w mean mg mb 223 20 [.ref r] (R ++ P) (RPostI w r R (gathS S) (gathE S - S.n)) := by
  obtain ⟨dr, rb, x, dx, l, vs, nn, k0, k1, k2, k3, k4, k5, k6, k7, k8, k9, v0, v1, v2, v3, v6, a1, a2, a3, fv, uv, H⟩ := id H
  unfold SpecC; k_fill; intro dp un gd cn cs a' ccd cl outer A₀ base h₀ L m s Q E B F X N T hk hdp hun hret
  obtain ⟨Rest, N6, okA, ⟨e1, e2, e3, ⟨e4, e5, e6⟩, ⟨e7, e8, e9⟩, ⟨e10, e11, e12⟩, q1, q2, q3, q4, q5, q6⟩, tR, sub⟩ := open6 N (H.mono fun p hp => List.mem_append.mpr (.inr hp))
  have hR : ∀ p ∈ R, p ∈ Rest := fun p hp => sub p (List.mem_append.mpr (.inl hp)) (ap.sep H.mr p hp) (ap.sep H.md p hp) (ap.sep H.mb p hp) (ap.sep H.mx p hp) (ap.sep H.mdx p hp) (ap.sep H.ml p hp)
  have s1 := ap.sep H.mr
  have s2 := ap.sep H.md
  have s3 := ap.sep H.mb
  have s4 := ap.sep H.mx
  have s5 := ap.sep H.mdx
  have s6 := ap.sep H.ml
  obtain ⟨hf, hu, -, -, -, -, -, -, -⟩ := H
  obtain ⟨-, xd, xl, dl, -, -, -⟩ := id okA
  clear N sub ap
  refine wpC_call ?_
  k_dflt (refine' code_defC' [("self", .ref r)] ?k1 ?k2 ?k3 ?k4 ?k5 ?kA ?kF ?kK ?k6 ?k7 ?k8 ?k9 ?kB ?_ ?c2 ?c3 ?c4 ?c5; walk_at "mine enter")
  refine wpC_split [_, _] ?_
  k_steps
  · rename S.over = true => ho
    show wpC _ _ _ _ _ _
    refine wpC_cons (wpC_Expr (wpC_Method ?_))
    (try dsimp only)
    k_fold
    k_steps
    refine keepsC_b ?_
    refine' extend_O (p := S.rd) (q := S.n) (r := S.n) ?F ?N ?hc ?h0 ?U ?_
    case F => k_asm
    case N => k_asm
    case hc => rw [octs_nil (Int.le_refl _)]
    case h0 => walk_at "mine om"
    case U => k_upd
    intro h9 F9 N9
    refine ⟨rfl, ?_⟩
    show wpC _ _ _ _ _ _
    refine wpC_any ?_
    (try k_sweep)
    k_fold
    have hfin := h8 ho
    have hf' := hf
    rw [hfin] at hf'
    obtain ⟨tf, rfl⟩ := hf'
    have h6 : S.nx = S.n + 1 := by unfold RS.nx; rw [ho]; rfl
    have eE : gathE S = S.n := if_pos ho
    have eS : gathS S = S := by
      unfold gathS
      rw [eE, if_pos ho, ho, Bool.true_or]
      cases S
      cases ho
      rfl
    rw [eS, eE] at hret
    have ez : S.nx + ((#[] : Array UInt8).size : Int) = S.nx := by simp
    k_steps
    · rename sq _ _ _ = sq _ _ _ => e9
      rw [ez] at e9
      have := sq_inj (by (first | lia | omega)) (by (first | lia | omega)) e9
      (first | lia | omega)
    · rename News _ _ _ _ => N9
      rw [ez] at N9
      obtain ⟨P', N', H', A'⟩ := shut6 N9 hf hu tR hR nt s1 s2 s3 s4 s5 s6
      exact hret _ _ _ _ (by k_asm) N' ⟨P', _, rfl, H', A', int_eq (by simp)⟩
  · have ho : S.over = false := by
      cases h : S.over
      · rfl
      · simp_all
    have h6 : S.nx = S.n := by unfold RS.nx; rw [ho]; rfl
    rename News _ _ _ _ => N9
    k_dflt (refine' Spec.use (take_spec (nn := nn) (n := S.nx) (R := (r, instObj 275 dr) :: (dr, recvD w k0 k1 k2 k3 k4 k5 k6 k7 k8 k9 v0 v1 v2 v3 v6 S.ring S.room (sq S.ring S.bs S.nx) (sq S.ring S.bs S.room) rb x fv S.over uv) :: (rb, barr (octs S.rd S.n)) :: Rest) okA ?hI ?hIl ?h1 ?h2) ?B ?F ?X N9 ?T ?hk ?hd ?hu ?_; (case B => k_asm); (case F => k_asm); (case X => k_asm); (case T => k_asm); (case hk => rfl); (case hd => walk_at "mine room"); (case hu => walk_at "mine units"); (case hI => (intro p hp'; have := hI p hp'; (first | lia | omega))); (case hIl => (first | lia | omega)); (case h1 => exact h1); (case h2 => walk_at "mine om"))
    rintro r9 n1 h9 tk9 F9 N9' ⟨vs', nn', tk8, rfl, ok', rfl⟩
    unfold asmL at N9'
    clear N9 N6
    (try dsimp only)
    (try k_sweep)
    (try k_fold)
    k_steps
    have hE : S.nx ≤ takeE S.nx S.I ∧ takeE S.nx S.I ≤ S.room := by
      cases hc : S.I with
      | nil => rw [takeE]; (first | lia | omega)
      | cons p r => have := hI p (by rw [hc]; exact .head _); rw [takeE]; split <;> (first | lia | omega)
    have hT' := tups3 ok'.tups
    have eE : gathE S = takeE S.nx S.I := by unfold gathE; rw [ho, h6]; rfl
    have eS : ∀ b, decide (S.fin = some (takeE S.nx S.I)) = b → gathS S = { S with n := takeE S.nx S.I, I := takeI S.nx S.I, over := b } := by
      intro b hb
      unfold gathS
      rw [eE, hb, ho, h6]
      rfl
    have ez : S.nx + (takeE S.nx S.I - S.nx) = takeE S.nx S.I := by (first | lia | omega)
    show wpC _ _ _ _ _ _
    refine wpC_cons (wpC_Expr (wpC_Method ?_))
    (try dsimp only)
    k_fold
    k_steps
    refine keepsC_b ?_
    refine' extend_O (p := S.rd) (q := S.n) (r := takeE S.nx S.I) ?F ?N ?hc ?h0 ?U ?_
    case F => k_asm
    case N => k_asm
    case hc => rw [h6]
    case h0 => walk_at "mine om"
    case U => k_upd
    intro h9 F9 N9
    refine ⟨rfl, ?_⟩
    show wpC _ _ _ _ _ _
    refine wpC_any ?_
    (try k_sweep)
    k_fold
    cases hfin : S.fin with
    | some f =>
      have hf' := hf
      rw [hfin] at hf'
      obtain ⟨tf, rfl⟩ := hf'
      have h9 := h7 f (by rw [hfin]; exact rfl)
      k_steps
      · rename sq _ _ _ = sq _ _ _ => e9
        rw [ez] at e9
        have e8 := sq_inj (by (first | lia | omega)) (by (first | lia | omega)) e9
        rename News _ _ _ _ => N9
        rw [ez] at N9
        rw [eS true (by rw [hfin, e8]; exact decide_eq_true rfl), eE] at hret
        obtain ⟨P', N', H', A'⟩ := shut6 (S := { S with n := takeE S.nx S.I, I := takeI S.nx S.I, over := true }) N9 hf hu hT' hR nt s1 s2 s3 s4 s5 s6
        exact hret _ _ _ _ (by k_asm) N' ⟨P', _, rfl, H', A', int_eq (by (first | lia | omega))⟩
      · rename sq _ _ _ ≠ sq _ _ _ => e9
        rw [ez] at e9
        have e8 : f ≠ takeE S.nx S.I := fun e => e9 (by rw [e])
        rename News _ _ _ _ => N9
        rw [ez, ho] at N9
        rw [eS false (by rw [hfin]; exact decide_eq_false (fun e => e8 (Option.some.inj e))), eE] at hret
        obtain ⟨P', N', H', A'⟩ := shut6 (S := { S with n := takeE S.nx S.I, I := takeI S.nx S.I, over := false }) N9 hf hu hT' hR nt s1 s2 s3 s4 s5 s6
        exact hret _ _ _ _ (by k_asm) N' ⟨P', _, rfl, H', A', int_eq (by (first | lia | omega))⟩
    | none =>
      have hf' := hf
      rw [hfin] at hf'
      obtain rfl : fv = .none := hf'
      k_steps
      rename News _ _ _ _ => N9
      rw [ez, ho] at N9
      rw [eS false (by rw [hfin]; exact decide_eq_false (fun e => nomatch e)), eE] at hret
      obtain ⟨P', N', H', A'⟩ := shut6 (S := { S with n := takeE S.nx S.I, I := takeI S.nx S.I, over := false }) N9 hf hu hT' hR nt s1 s2 s3 s4 s5 s6
      exact hret _ _ _ _ (by k_asm) N' ⟨P', _, rfl, H', A', int_eq (by (first | lia | omega))⟩
end

theorem anew_21b : True := by w_top off; trivial
section
variable {S : RS} {u v w : Int}
theorem noteS_n : (noteS v S).n = S.n := by unfold noteS; split <;> rfl
theorem noteS_ring : (noteS v S).ring = S.ring := by unfold noteS; split <;> rfl
theorem noteS_bs : (noteS v S).bs = S.bs := by unfold noteS; split <;> rfl
theorem noteS_room : (noteS v S).room = S.room := by unfold noteS; split <;> rfl
theorem noteS_rd : (noteS v S).rd = S.rd := by unfold noteS; split <;> rfl
theorem noteS_over : (noteS v S).over = S.over := by unfold noteS; split <;> rfl
theorem noteS_urg : (noteS v S).urg = S.urg := by unfold noteS; split <;> rfl
theorem noteS_nx : (noteS v S).nx = S.nx := by unfold noteS; split <;> rfl
theorem can_parts {n hi : Int} {I : List (Int × Int)} (c : Can n I) (h : ∀ p ∈ I, p.2 ≤ hi) : ∀ p ∈ I, n < p.1 ∧ p.1 < p.2 ∧ p.2 ≤ hi := fun p hp => ⟨(c.mem p hp).1, (c.mem p hp).2, h p hp⟩
theorem can_len {n hi : Int} {I : List (Int × Int)} (c : Can n I) (h0 : 0 ≤ n ∧ n ≤ hi ∧ hi ≤ 20) (h : ∀ p ∈ I, p.2 ≤ hi) : I.length ≤ 20 := by
  have := c.len h0.2.1 h
  (first | lia | omega)
theorem note_good (ok : ROk S) (can : Can S.n S.I) (hv : 0 ≤ v ∧ v ≤ 40) : ROk (noteS v S) ∧ Can (noteS v S).n (noteS v S).I := by
  unfold noteS
  split
  · rename_i h
    obtain ⟨h1, h2⟩ := h
    obtain ⟨c1, c2, c3⟩ := cut_law (f := v) S.I S.n can
    have hn := S.nx_le
    have hr := ok.room
    have hd := ok.rd
    have hn' := ok.n
    have hb : ∀ p ∈ cutI v S.I, p.2 ≤ S.room := fun p hp => by
      obtain ⟨_, q, hq, h⟩ := c2 p hp
      have := ok.parts q hq
      (first | lia | omega)
    refine ⟨⟨ok.ring, ok.room, ok.rd, ok.n, fun f hf => ?_, ok.urg, can_parts c1 hb, can_len c1 (by (first | lia | omega)) hb, fun ho => ?_⟩, c1⟩
    · cases Option.mem_some.mp hf
      dsimp only
      (first | lia | omega)
    · have := (ok.over ho).2
      rw [h1] at this
      exact nomatch this
  · exact ⟨ok, can⟩
noncomputable def arr1 (v : Int) (hf : Bool) (w : Int) (S : RS) : RS := if hf = true ∧ w = v then noteS v S else S
noncomputable def arrW (w u : Int) (fin : Option Int) : Int := match fin with
  | some f => max u (min w f)
  | none => w
noncomputable def arr2 (u w : Int) (S : RS) : RS := if S.over = false ∧ u < w then { S with I := putI S.n u w S.I } else S
noncomputable def arrP (u v : Int) (hf : Bool) (S : RS) : RS := arr2 u (arrW (max u (min v S.room)) u (arr1 v hf (max u (min v S.room)) S).fin) (arr1 v hf (max u (min v S.room)) S)
noncomputable def arrS (u v : Int) (hf : Bool) (S : RS) : RS := gathS (arrP u v hf S)
noncomputable def arrV (u v : Int) (hf : Bool) (S : RS) : Int := gathE (arrP u v hf S) - S.n
theorem arr1_good {hf : Bool} (ok : ROk S) (can : Can S.n S.I) (hv : 0 ≤ v ∧ v ≤ 40) : ROk (arr1 v hf w S) ∧ Can (arr1 v hf w S).n (arr1 v hf w S).I := by
  unfold arr1
  split
  · exact note_good ok can hv
  · exact ⟨ok, can⟩
theorem arr1_n {hf : Bool} : (arr1 v hf w S).n = S.n := by unfold arr1; split; exact noteS_n; rfl
theorem arr1_ring {hf : Bool} : (arr1 v hf w S).ring = S.ring := by unfold arr1; split; exact noteS_ring; rfl
theorem arr1_bs {hf : Bool} : (arr1 v hf w S).bs = S.bs := by unfold arr1; split; exact noteS_bs; rfl
theorem arr1_room {hf : Bool} : (arr1 v hf w S).room = S.room := by unfold arr1; split; exact noteS_room; rfl
theorem arr1_rd {hf : Bool} : (arr1 v hf w S).rd = S.rd := by unfold arr1; split; exact noteS_rd; rfl
theorem arr1_over {hf : Bool} : (arr1 v hf w S).over = S.over := by unfold arr1; split; exact noteS_over; rfl
theorem arr1_nx {hf : Bool} : (arr1 v hf w S).nx = S.nx := by unfold arr1; split; exact noteS_nx; rfl
theorem arr1_urg {hf : Bool} : (arr1 v hf w S).urg = S.urg := by unfold arr1; split; exact noteS_urg; rfl
theorem max_right {a b c : Int} (h : a < max b c) (k : b ≤ a) : a < c := Int.not_le.mp fun q => absurd h (Int.not_lt.mpr (Int.max_le.mpr ⟨k, q⟩))
theorem maxmin_le {u v m : Int} : u ≤ max u (min v m) ∧ (u < max u (min v m) → max u (min v m) ≤ m) :=
  ⟨Int.le_max_left _ _, fun h => Int.max_le.mpr ⟨Int.le_of_lt (Int.lt_of_lt_of_le (max_right h (Int.le_refl _)) (Int.min_le_right _ _)), Int.min_le_right _ _⟩⟩
theorem arrW_le {fin : Option Int} (h : u ≤ w) : u ≤ arrW w u fin ∧ arrW w u fin ≤ w := by
  cases fin with
  | some f => exact ⟨Int.le_max_left _ _, Int.max_le.mpr ⟨h, Int.min_le_left _ _⟩⟩
  | none => exact ⟨h, Int.le_refl _⟩
/-- what stands ahead of 'gather' -/
theorem arr2_good {S : RS} {w : Int} (ok : ROk S) (can : Can S.n S.I) (hw : 0 ≤ u ∧ (u < w → w ≤ S.room)) : (∀ p ∈ (arr2 u w S).I, S.n ≤ p.1 ∧ p.1 < p.2 ∧ p.2 ≤ S.room) ∧ (arr2 u w S).I.length ≤ 64 ∧ Can (S.n - 1) (arr2 u w S).I ∧ (S.over = true → arr2 u w S = S) ∧ ∀ x, InI (arr2 u w S).I x ↔ InI S.I x ∨ (S.over = false ∧ max S.n u ≤ x ∧ x < max S.n w) := by
  have h2 := ok.room
  have h3 := ok.rd
  have h4 := ok.n
  unfold arr2
  split
  · rename_i h
    obtain ⟨c1, c2⟩ := put_law (u := u) (v := w) can
    have hp : ∀ p ∈ putI S.n u w S.I, S.n - 1 < p.1 ∧ p.1 < p.2 ∧ p.2 ≤ S.room := fun p hp => by
      have h5 := c1.mem p hp
      have h6 := (c2 (p.2 - 1)).mp ⟨p, hp, by (first | lia | omega), by (first | lia | omega)⟩
      refine ⟨h5.1, h5.2, ?_⟩
      rcases h6 with ⟨q, hq, h7⟩ | h7
      · have := ok.parts q hq; (first | lia | omega)
      · (first | lia | omega)
    refine ⟨fun p hp' => ⟨Int.le_of_sub_one_lt (hp p hp').1, (hp p hp').2⟩, ?_, c1, fun ho => absurd ho (by rw [h.1]; decide), fun x => (c2 x).trans (or_congr_right ⟨fun z => ⟨h.1, z⟩, fun z => z.2⟩)⟩
    have := c1.len (hi := S.room) (by (first | lia | omega)) fun p hp' => (hp p hp').2.2
    dsimp only
    (first | lia | omega)
  · rename_i h
    refine ⟨fun p hp' => ⟨Int.le_of_lt (ok.parts p hp').1, (ok.parts p hp').2⟩, by have := ok.len; (first | lia | omega), can.low (by (first | lia | omega)), fun _ => rfl, fun x => ⟨.inl, fun z => ?_⟩⟩
    rcases z with z | ⟨z1, z2⟩
    · exact z
    · exact absurd ⟨z1, Int.not_le.mp fun k => Int.lt_irrefl x (Int.lt_of_lt_of_le z2.2 (Int.le_trans (Int.max_le.mpr ⟨Int.le_max_left _ _, Int.le_trans k (Int.le_max_right _ _)⟩) z2.1))⟩ h
end

theorem anew_22 : True := by w_top off; trivial
section
variable {prog : Program} {w : World} {A : Around} {E : Value → Shared → Prop} {s : Shared} {env : Env} {h₀ : Heap} {L : Addr} {Q : Flow → Shared → Prop}
/-- the state behind a statement: a frame, a ledger, a word of both -/
inductive CutAt (h₀ : Heap) (L : Addr) (s : Shared) (J : (Str → Option Value) → Led → Prop) (s' : Shared) : Prop
  | mk : ∀ h' tk' m' nx, s' = { s with heap := h', toks := tk' } →
    Fr h₀ L h' m' →
    News h₀ L h' nx →
    J m' nx → CutAt h₀ L s J s'
/-- the same as an end of a walk: the flow goes on, or returns as Q says -/
noncomputable def CutEnd (h₀ : Heap) (L : Addr) (s : Shared) (J : (Str → Option Value) → Led → Prop) (Q : Flow → Shared → Prop) (f : Flow) (s' : Shared) : Prop :=
  match f with
  | .next => CutAt h₀ L s J s'
  | f => Q f s'
theorem CutEnd.next {J : (Str → Option Value) → Led → Prop} {h' : Heap} {tk' : Nat} {m' : Str → Option Value} {nx : Led} (F : Fr h₀ L h' m') (N : News h₀ L h' nx) (h : J m' nx) : CutEnd h₀ L s J Q .next { s with heap := h', toks := tk' } := ⟨h', tk', m', nx, rfl, F, N, h⟩
theorem wpC_cut {st : Stmt} {rest : List Stmt} {m : Str → Option Value} (FrU : Fr h₀ L s.heap m) (J : (Str → Option Value) → Led → Prop) (h1 : ∀ Qz, (∀ f s', CutEnd h₀ L s J Q f s' → EndOf Qz f s') → wpAny (model prog w) A (exec st env) (EndOf Qz) E s)
    (h2 : ∀ h' tk' m' nx, Fr h₀ L h' m' → News h₀ L h' nx → J m' nx → wpC (model prog w) A (execs rest env) Q E { s with heap := h', toks := tk' }) : wpC (model prog w) A (execs (st :: rest) env) Q E s := by
  refine wpC_cons (wpC_any (wpAny_mono (h1 _ fun _ _ x => x) (fun f s' h => ?_) fun _ _ x => x))
  cases f with
  | next =>
    obtain ⟨h', tk', m', nx, rfl, F, N, j⟩ := h
    exact h2 h' tk' m' nx F N j
  | _ => exact h
theorem wpAny_cut {st : Stmt} {rest : List Stmt} {m : Str → Option Value} (FrU : Fr h₀ L s.heap m) (J : (Str → Option Value) → Led → Prop) (h1 : ∀ Qz, (∀ f s', CutEnd h₀ L s J Q f s' → EndOf Qz f s') → wpAny (model prog w) A (exec st env) (EndOf Qz) E s)
    (h2 : ∀ h' tk' m' nx, Fr h₀ L h' m' → News h₀ L h' nx → J m' nx → wpAny (model prog w) A (execs rest env) Q E { s with heap := h', toks := tk' }) : wpAny (model prog w) A (execs (st :: rest) env) Q E s := by
  rw [execs_cons]
  refine wpAny_bind (wpAny_mono (h1 _ fun _ _ x => x) (fun f s' h => ?_) fun _ _ x => x)
  cases f with
  | next =>
    obtain ⟨h', tk', m', nx, rfl, F, N, j⟩ := h
    exact h2 h' tk' m' nx F N j
  | _ => exact wpAny_pure h
end
section
variable {w : World} {mean : ExcName → Option Value} {mg mb : Str → Option Value} {R P : Led} {r : Addr} {S : RS}
theorem rput_spec {u v : Int} {tu to tn : Tok} {dr rb x dx l : Addr} {vs : List Value} {nn : Nat} {k0 k1 k2 k3 k4 k5 k6 k7 k8 k9 v0 v1 v2 v3 v6 a1 a2 a3 : Tok} {fv uv : Value}
    (H : RAt w r dr rb x dx l vs nn k0 k1 k2 k3 k4 k5 k6 k7 k8 k9 v0 v1 v2 v3 v6 a1 a2 a3 fv uv S P) (ap : Apart R P) (nt : NoTup R) (ok : ROk S) (hu : 0 ≤ u ∧ u ≤ v ∧ v ≤ 40) :
    Spec w mean mg mb 89 20 [.ref x, .int (sq S.ring S.bs u) tu, .bytes (octs u v) to, .int (sq S.ring S.bs S.n) tn] (R ++ P) (RPostN w r R { S with I := putI S.n u v S.I }) := by
  have h1 := ok.ring
  have h2 := ok.room
  have h3 := ok.rd
  have h4 := ok.n
  have hp := ok.parts
  have hl := ok.len
  unfold Spec; intro dp un gd cn cs a' ccd cl outer A₀ base h₀ L m s Q E B F X N T hk hdp hun hret
  obtain ⟨Rest, N6, okA, ⟨e1, e2, e3, ⟨e4, e5, e6⟩, ⟨e7, e8, e9⟩, ⟨e10, e11, e12⟩, q1, q2, q3, q4, q5, q6⟩, tR, sub⟩ := open6 N (H.mono fun p hp => List.mem_append.mpr (.inr hp))
  have hR : ∀ p ∈ R, p ∈ Rest := fun p hp => sub p (List.mem_append.mpr (.inl hp)) (ap.sep H.mr p hp) (ap.sep H.md p hp) (ap.sep H.mb p hp) (ap.sep H.mx p hp) (ap.sep H.mdx p hp) (ap.sep H.ml p hp)
  refine Spec.use (put_spec (nn := nn) (n := S.n) (u := u) (v := v) (k1 := a1) (k2 := a2) (t := a3) (tu := tu) (to := to) (tn := tn) okA (fun p hp' => by have := hp p hp'; (first | lia | omega)) (by (first | lia | omega)) h1 (by (first | lia | omega))) B F X N6 T hk hdp hun ?_
  rintro y n1 h9 tk9 F9 N9 ⟨l', vs', nn', R', rfl, hs, ok', rfl⟩
  have m1 := hs _ (.head _)
  have m2 := hs _ (.tail _ (.head _))
  have m3 := hs _ (.tail _ (.tail _ (.head _)))
  have hR' : ∀ p ∈ R, p ∈ R' := fun p hp => hs _ (.tail _ (.tail _ (.tail _ (hR p hp))))
  obtain ⟨P', N', H', A'⟩ := close6 (S := { S with I := putI S.n u v S.I }) N9 ⟨H.hf, H.hu, .tail _ (.tail _ (.tail _ m1)), .tail _ (.tail _ (.tail _ m2)), .tail _ (.tail _ (.tail _ m3)), .head _, .tail _ (.head _), .tail _ (.tail _ (.head _)), ok'.tups.mono fun p hp => .tail _ (.tail _ (.tail _ hp))⟩
    (fun p hp => .tail _ (.tail _ (.tail _ (hR' p hp)))) nt (ap.sep H.mr) (ap.sep H.md) (ap.sep H.mb) (ap.sep H.mx) (ap.sep H.mdx) (fun p hp => ok'.rl p (hR' p hp))
  exact hret _ _ _ _ F9 N' ⟨P', rfl, H', A', rfl⟩
end
theorem say_22_1 : True := by
  k_with "call ref" => ((k_here; (with_reducible show wpAny _ _ (call (Value.ref 202) _) _ _ _); k_dflt (
  (refine' Spec.useR (let_in_spec ?h1 ?h2 ?h3) ?B ?F ?X ?N ?T ?hk ?hd ?hu ?_; walk_at "mine use"; (case h1 => walk_at "mine recv"); (case h2 => assumption); (case h3 => walk_at "mine om"))); intro rZ' hZ' tkZ' FZ' NZ' hrZ'; obtain ⟨tZ', eZ'⟩ := hrZ'; subst eZ'; (try dsimp only); (try k_sweep); (try k_fold)))
  trivial
theorem say_22_2 : True := by
  k_with "CutEnd" => ((refine stop_ ?_))
  trivial
section
variable {w : World} {mean : ExcName → Option Value} {mg mb : Str → Option Value} {R P : Led} {r : Addr} {S : RS}
/-- where 'arrive' stands behind its third and its fourth statement -/
inductive ArrJ (w : World) (r : Addr) (R : Led) (S1 : RS) (u v k : Int) (io : Bool) (to : Value) (tu : Tok) (m : Str → Option Value) (nx : Led) : Prop
  | mk : ∀ P1 tk, nx = R ++ P1 →
    Recv w r S1 P1 →
    Apart R P1 →
    (∀ p ∈ [(("kept" : Str), Value.bytes (octs u k) tk), ("is_in_order", .bool io), ("octets", to), ("seq", .int (sq S1.ring S1.bs u) tu), ("self", .ref r)], m p.1 = some p.2) → ArrJ w r R S1 u v k io to tu m nx
theorem arrive_spec {u v : Int} {tu to : Tok} {hf : Bool} (H : Recv w r S P) (ap : Apart R P) (nt : NoTup R) (ok : ROk S) (can : Can S.n S.I) (hu : 0 ≤ u ∧ u ≤ v ∧ v ≤ 40) :
    SpecC w mean mg mb 195 30 [.ref r, .int (sq S.ring S.bs u) tu, .bytes (octs u v) to, .bool hf] (R ++ P)
      (TupPost w r R (arrS u v hf S) (arrV u v hf S) (decide (u ≤ S.nx))) := by
  obtain ⟨dr, rb, x, dx, l, vs, nn, k0, k1, k2, k3, k4, k5, k6, k7, k8, k9, v0, v1, v2, v3, v6, a1, a2, a3, fv, uv, H1⟩ := id H
  have h1 := ok.ring
  have h2 := ok.room
  have h3 := ok.rd
  have h4 := ok.n
  have h5 := S.nx_le
  unfold SpecC; k_fill; intro dp un gd cn cs a' ccd cl outer A₀ base h₀ L m s Q E B F X N T hk hdp hun hret
  obtain ⟨hfv, huv, mr, md, mb, mx, mdx, ml, mt⟩ := H1.mono (n' := R ++ P) fun p hp => List.mem_append.mpr (.inr hp)
  have H0 : Recv w r S (R ++ P) := H.mono fun p hp => List.mem_append.mpr (.inr hp)
  refine wpC_call ?_
  k_dflt (refine' code_defC' [("has_fin", .bool hf), ("octets", .bytes (octs u v) to), ("seq", .int (sq S.ring S.bs u) tu), ("self", .ref r)] ?k1 ?k2 ?k3 ?k4 ?k5 ?kA ?kF ?kK ?k6 ?k7 ?k8 ?k9 ?kB ?_ ?c2 ?c3 ?c4 ?c5; walk_at "mine enter")
  refine wpC_split [_, _] ?_
  k_steps
  show wpC _ _ _ _ _ _
  rename Fr _ _ _ _ => F1
  rename News _ _ _ _ => N1
  refine wpC_cut F1 (ArrJ w r R (arr1 v hf (max u (min v S.room)) S) u v (max u (min v S.room)) (decide (u ≤ S.nx)) (.bytes (octs u v) to) tu) ?_ ?_
  · intro QC9 hQC9
    cases hf with
    | false =>
      k_steps
      show CutEnd _ _ _ _ _ .next _
      exact .next F1 N1 ⟨P, _, rfl, H, ap, all2 rfl (all2 rfl (all2 rfl (all2 rfl (all2 rfl all0))))⟩
    | true =>
      k_steps
      · rename max u (min v S.room) - u = v - u => e9
        have eA : arr1 v true (max u (min v S.room)) S = noteS (u + (v - u)) S := by
          rw [show u + (v - u) = v by (first | lia | omega)]
          exact if_pos ⟨rfl, by (first | lia | omega)⟩
        k_dflt (refine' Spec.use (note_spec (v := u + (v - u)) H ap nt ok ?hv) ?B ?F ?X ?N ?T ?hk ?hd ?hu ?_; walk_at "mine use"; (case hv => (first | lia | omega)))
        rintro r9 n1 h9 tk9 F9 N9 ⟨P1, rfl, H1', A1, rfl⟩
        (try clear F1)
        (try clear N1)
        (try dsimp only)
        (try k_sweep)
        (try k_fold)
        k_steps
        rename Fr _ _ _ _ => F1
        show CutEnd _ _ _ _ _ .next _
        rw [eA]
        exact .next F1 N9 ⟨P1, _, rfl, H1', A1, all2 rfl (all2 rfl (all2 rfl (all2 (by rw [noteS_ring, noteS_bs]; rfl) (all2 rfl all0))))⟩
      · rename ¬ max u (min v S.room) - u = v - u => e9
        have eA : arr1 v true (max u (min v S.room)) S = S := if_neg fun h => by have := h.2; (first | lia | omega)
        rename Fr _ _ _ _ => F1
        rename News _ _ _ _ => N1
        show CutEnd _ _ _ _ _ .next _
        rw [eA]
        exact .next F1 N1 ⟨P, _, rfl, H, ap, all2 rfl (all2 rfl (all2 rfl (all2 rfl (all2 rfl all0))))⟩
  obtain ⟨ok1, can1⟩ := arr1_good (v := v) (hf := hf) (w := max u (min v S.room)) ok can (by (first | lia | omega))
  have er1 : (arr1 v hf (max u (min v S.room)) S).room = S.room := arr1_room
  have en1 : (arr1 v hf (max u (min v S.room)) S).n = S.n := arr1_n
  have eo1 : (arr1 v hf (max u (min v S.room)) S).over = S.over := arr1_over
  have eV : arrV u v hf S = gathE (arr2 u (arrW (max u (min v S.room)) u (arr1 v hf (max u (min v S.room)) S).fin) (arr1 v hf (max u (min v S.room)) S)) - (arr1 v hf (max u (min v S.room)) S).n := by rw [en1]; rfl
  have eS : arrS u v hf S = gathS (arr2 u (arrW (max u (min v S.room)) u (arr1 v hf (max u (min v S.room)) S).fin) (arr1 v hf (max u (min v S.room)) S)) := rfl
  rw [eV, eS] at hret
  generalize arr1 v hf (max u (min v S.room)) S = S1 at *
  have hw : u ≤ max u (min v S.room) ∧ max u (min v S.room) ≤ 40 ∧ (u < max u (min v S.room) → max u (min v S.room) ≤ S.room) :=
    ⟨maxmin_le.1, Int.max_le.mpr ⟨Int.le_trans hu.2.1 hu.2.2, Int.le_trans (Int.min_le_left _ _) hu.2.2⟩, maxmin_le.2⟩
  generalize max u (min v S.room) = k at *
  clear N1 F1 hfv huv mr md mb mx mdx ml mt H0 H1 H ap
  intro h' tk' m' nx F2 N2 hJ
  obtain ⟨P1, tk, rfl, H, ap, hm⟩ := hJ
  have F3 := Fr_chain _ F2 hm
  clear F2 hm
  obtain ⟨dr, rb, x, dx, l, vs, nn, k0, k1, k2, k3, k4, k5, k6, k7, k8, k9, v0, v1, v2, v3, v6, a1, a2, a3, fv, uv, H1⟩ := id H
  have H0 : Recv w r S1 (R ++ P1) := H.mono fun p hp => List.mem_append.mpr (.inr hp)
  obtain ⟨hfv, huv, mr, md, mb, mx, mdx, ml, mt⟩ := H1.mono (n' := R ++ P1) fun p hp => List.mem_append.mpr (.inr hp)
  refine wpC_cut F3 (ArrJ w r R S1 u v (arrW k u S1.fin) (decide (u ≤ S.nx)) (.bytes (octs u v) to) tu) ?_ ?_
  · cases hfin : S1.fin with
    | some f =>
      intro QC9 hQC9
      rw [hfin] at hfv
      obtain ⟨tf, rfl⟩ := hfv
      have hf9 := ok1.fin f (by rw [hfin]; exact rfl)
      with_reducible show wpAny _ _ _ _ _ _
      (try k_fold)
      k_steps
      k_dflt (refine' Spec.useR (ahead_spec (f := f) H0 ok1 ?h3 hfin) ?B ?F ?X ?N ?T ?hk ?hd ?hu ?_; walk_at "mine use"; (case h3 => (first | lia | omega)))
      rintro r9 h9 tk9 F9 N9 ⟨t9, rfl⟩
      (try clear F3)
      (try clear N2)
      (try dsimp only)
      (try k_sweep)
      (try k_fold)
      k_steps
      rename Fr _ _ _ _ => F1
      rename News _ _ _ _ => N9
      show CutEnd _ _ _ _ _ .next _
      exact .next F1 N9 ⟨P1, _, rfl, H, ap, all2 rfl (all2 rfl (all2 rfl (all2 rfl (all2 rfl all0))))⟩
    | none =>
      intro QC9 hQC9
      rw [hfin] at hfv
      obtain rfl : fv = .none := hfv
      with_reducible show wpAny _ _ _ _ _ _
      (try k_fold)
      k_steps
      show CutEnd _ _ _ _ _ .next _
      exact .next F3 N2 ⟨P1, _, rfl, H, ap, all2 rfl (all2 rfl (all2 rfl (all2 rfl (all2 rfl all0))))⟩
  have hw2 := arrW_le (fin := S1.fin) hw.1
  have hw3 : u ≤ arrW k u S1.fin ∧ arrW k u S1.fin ≤ 40 ∧ (u < arrW k u S1.fin → arrW k u S1.fin ≤ S1.room) :=
    ⟨hw2.1, Int.le_trans hw2.2 hw.2.1, fun h => by rw [er1]; exact Int.le_trans hw2.2 (hw.2.2 (Int.lt_of_lt_of_le h hw2.2))⟩
  clear hw hw2
  generalize arrW k u S1.fin = kw at *
  obtain ⟨g1, g2, g3, g4, g5⟩ := arr2_good (u := u) (w := kw) ok1 can1 (by (first | lia | omega))
  intro h' tk' m' nx F2 N2 hJ
  clear H1 H0 mr md mb mx mdx ml mt hfv huv H ap F3
  obtain ⟨P2, tk, rfl, H, ap, hm⟩ := hJ
  have F3 := Fr_chain _ F2 hm
  clear F2 hm
  obtain ⟨dr, rb, x, dx, l, vs, nn, k0, k1, k2, k3, k4, k5, k6, k7, k8, k9, v0, v1, v2, v3, v6, a1, a2, a3, fv, uv, H1⟩ := id H
  have H0 : Recv w r S1 (R ++ P2) := H.mono fun p hp => List.mem_append.mpr (.inr hp)
  obtain ⟨hfv, huv, mr, md, mb, mx, mdx, ml, mt⟩ := H1.mono (n' := R ++ P2) fun p hp => List.mem_append.mpr (.inr hp)
  refine wpC_cut F3 (ArrJ w r R (arr2 u kw S1) u v kw (decide (u ≤ S.nx)) (.bytes (octs u v) to) tu) ?_ ?_
  · cases ho : S1.over with
    | true =>
      intro QC9 hQC9
      rw [ho] at md
      with_reducible show wpAny _ _ _ _ _ _
      (try k_fold)
      k_steps
      rw [g4 ho]
      show CutEnd _ _ _ _ _ .next _
      exact .next F3 N2 ⟨P2, _, rfl, H, ap, all2 rfl (all2 rfl (all2 rfl (all2 rfl (all2 rfl all0))))⟩
    | false =>
      intro QC9 hQC9
      rw [ho] at md
      have h6 : S1.nx = S1.n := by unfold RS.nx; rw [ho]; rfl
      rw [h6] at md
      with_reducible show wpAny _ _ _ _ _ _
      (try k_fold)
      k_steps
      · rename u < kw => e9
        have eA : arr2 u kw S1 = { S1 with I := putI S1.n u kw S1.I } := if_pos ⟨ho, e9⟩
        k_dflt (refine' Spec.use (rput_spec H1 ap nt ok1 ?h3) ?B ?F ?X ?N ?T ?hk ?hd ?hu ?_; walk_at "mine use"; (case h3 => (first | lia | omega)))
        rintro r9 n1 h9 tk9 F9 N9 ⟨P3, rfl, H', A', rfl⟩
        (try clear F3)
        (try clear N2)
        (try dsimp only)
        (try k_sweep)
        (try k_fold)
        k_steps
        rename Fr _ _ _ _ => F1
        rename News _ _ _ _ => N9
        show CutEnd _ _ _ _ _ .next _
        rw [eA]
        exact .next F1 N9 ⟨P3, _, rfl, H', A', all2 rfl (all2 rfl (all2 rfl (all2 rfl (all2 rfl all0))))⟩
      · rename ¬ u < kw => e9
        have eA : arr2 u kw S1 = S1 := if_neg fun h => e9 h.2
        rename Fr _ _ _ _ => F1
        rename News _ _ _ _ => N9
        show CutEnd _ _ _ _ _ .next _
        rw [eA]
        exact .next F1 N9 ⟨P2, _, rfl, H, ap, all2 rfl (all2 rfl (all2 rfl (all2 rfl (all2 rfl all0))))⟩
  have hover : (arr2 u kw S1).over = S1.over := by unfold arr2; split <;> rfl
  have hn : (arr2 u kw S1).n = S1.n := by unfold arr2; split <;> rfl
  have hring : (arr2 u kw S1).ring = S1.ring := by unfold arr2; split <;> rfl
  have hroom : (arr2 u kw S1).room = S1.room := by unfold arr2; split <;> rfl
  have hrd : (arr2 u kw S1).rd = S1.rd := by unfold arr2; split <;> rfl
  have hfin : (arr2 u kw S1).fin = S1.fin := by unfold arr2; split <;> rfl
  have p1 := ok1.ring
  have p2 := ok1.room
  have p3 := ok1.rd
  have p4 := ok1.n
  have p5 := ok1.fin
  have p6 := ok1.over
  rw [← hn] at p3 p4 p5 p6 g1
  rw [← hring] at p1
  rw [← hroom] at p2 p4 g1
  rw [← hrd] at p3
  rw [← hfin] at p5 p6
  rw [← hover] at p6
  rw [← hn] at hret
  clear hover hn hring hroom hrd hfin g3 g4 g5 ok1 can1 hw3 F3 H1 H0 mr md mb mx mdx ml mt hfv huv H ap
  generalize arr2 u kw S1 = S2 at *
  intro h' tk' m' nx F2 N2 hJ
  obtain ⟨P3, tk, rfl, H, ap, hm⟩ := hJ
  have F3 := Fr_chain _ F2 hm
  clear F2 hm
  obtain ⟨dr, rb, x, dx, l, vs, nn, k0, k1, k2, k3, k4, k5, k6, k7, k8, k9, v0, v1, v2, v3, v6, a1, a2, a3, fv, uv, H1⟩ := id H
  obtain ⟨hfv, huv, mr, md, mb, mx, mdx, ml, mt⟩ := H1.mono (n' := R ++ P3) fun p hp => List.mem_append.mpr (.inr hp)
  refine wpC_cons (wpC_AssignName (wpC_Method0 ?_))
  (try dsimp only)
  (try k_fold)
  k_steps
  refine keepsC_f (K := hd.heap_39 w.params) F3 ?X ?e ?_
  case X => k_asm
  case e => exact rfl
  (try dsimp only)
  k_dflt (refine' SpecC.use (gather_spec H ap nt p1 p2 p3 p4 g1 g2 p5 fun ho => (p6 ho).2) ?B ?F ?X ?N ?T ?hk ?hd ?hu ?_; walk_at "mine use")
  rintro r9 n1 h9 tk9 F9 N9 ⟨P4, t4, rfl, H', A', rfl⟩
  (try clear F3)
  (try clear N2)
  (try dsimp only)
  (try k_sweep)
  (try k_fold)
  k_steps
  show wpC _ _ _ _ _ _
  refine wpC_any ?_
  (try k_fold)
  k_steps
  rename News _ _ _ _ => N9
  rename ∀ p ∈ R ++ P4, p.1 < _ => hl9
  exact hret _ _ _ _ (by k_asm) N9 ⟨_, _, P4, rfl, H', A', hl9, rfl⟩
end

theorem anew_23 : True := by w_top off; trivial
theorem say_23_1 : True := by
  k_with "mine enter" => (((case kA => exact rfl); (case kF => exact rfl); (case kK => first | assumption | exact rfl); (case k1 => k_asm); (case k2 => k_asm); (case k3 => k_asm); (case k4 => k_asm); (case k5 => k_asm); (case k6 => k_is); (case k7 => k_is); (case k8 => walk_at "mine room"); (case k9 => first | exact BindsTo.of_eq rfl | exact binds_K (by k_in) rfl (by k_is) rfl rfl rfl); (case c5 => decide); (case kB => exact locs rfl); (case c2 => exact rfl); (case c3 => exact rfl); (case c4 => exact rfl); k_whole; intro gZ' LZ' hZ' tkZ' FGZ' FZ' NZ' BZ' XZ' TZ'; (try dsimp only); (try k_fold)))
  trivial
theorem under_make {A : Around} {C : Addr} {rest : List Value} {kw : List (Str × Value)} : A.under (.builtin "type.__call__" ⟨.ref C :: rest, kw⟩) = { A with depth := A.depth + 1, units := A.units + 1 } := by kernel_rfl
section
variable {w : World} {mean : ExcName → Option Value} {mg mb : Str → Option Value} {R : Led}
noncomputable def initS (ring bs room : Int) : RS := { ring := ring, bs := bs, room := room, rd := 0, n := 0, over := false, fin := none, urg := none, I := [] }
theorem receiver_spec {irs ring room : Int} {ti tr tm t1 : Tok} (nt : NoTup R) (h1 : 256 ≤ ring) (h2 : 8 ≤ room ∧ room ≤ 20) :
    SpecC w mean mg mb 275 20 [.int irs ti, .int ring tr, .int room tm, .int 1 t1] R
      (NewPost w R (initS ring ((irs + 1) % ring) room)) := by
  unfold SpecC; k_fill; intro dp un gd cn cs a' ccd cl outer A₀ base h₀ L m s Q E B F X N T hk hdp hun hret
  refine wpC_call ?_
  refine make_C (K := hd.heap_39 w.params) (fI := 160) F N (X.keeps F.keep) ?hm ?hi ?hf ?_
  case hm => exact rfl
  case hi => exact rfl
  case hf => exact rfl
  rw [under_make]
  dsimp only
  intro x dx h' F1 N1 l1 l2
  replace N1 : News h₀ L h' ((x, instObj 275 dx) :: (dx, dictOf [] 0) :: R) := N1
  have l4 : ∀ p ∈ R, p.1 ≠ dx := fun p hp => Nat.ne_of_lt (l1 p hp)
  have l5 : ∀ p ∈ R, p.1 ≠ x := fun p hp => Nat.ne_of_lt (Nat.lt_trans (l1 p hp) l2)
  have l6 : x ≠ dx := Nat.ne_of_gt l2
  k_dflt (refine' code_defC' [("mss", .int 1 t1), ("room", .int room tm), ("ring", .int ring tr), ("irs", .int irs ti), ("self", .ref x)] ?k1 ?k2 ?k3 ?k4 ?k5 ?kA ?kF ?kK ?k6 ?k7 ?k8 ?k9 ?kB ?_ ?c2 ?c3 ?c4 ?c5; walk_at "mine enter")
  refine wpC_split [_, _, _, _] ?_
  k_steps
  show wpC _ _ _ _ _ _
  refine wpC_cons (wpC_AssignAttr (wpC_CallName0 ?_))
  (try dsimp only)
  (try k_fold)
  k_steps
  refine keepsC_t ?_
  rename Fr _ _ _ _ => F2
  rename News _ _ _ _ => N2
  refine make_ba F2 N2 ?_
  intro D h9 F9 N9 lD
  (try k_lt lD)
  (try clear F2)
  (try clear N2)
  (try dsimp only)
  (try k_sweep)
  (try k_fold)
  k_steps
  show wpC _ _ _ _ _ _
  refine wpC_any ?_
  (try k_fold)
  k_steps
  k_dflt (refine' call_cls (K := hd.heap_39 w.params) (fI := 63) ?k1 ?k2 ?k3 ?k4 ?k5 ?k6 ?_; (case k1 => k_asm); (case k2 => k_asm); (case k3 => k_asm); (case k4 => k_is); (case k5 => k_is); (case k6 => k_is))
  intro x' d' h' F' N' lA lB
  (try k_lt lA)
  (try k_lt2 lB)
  (try k_sweep)
  rw [under_make]
  dsimp only [Around.deeper]
  k_dflt (refine' code_defM [("ring", .int ring tr), ("self", .ref x')] ?k1 ?k2 ?k3 ?k4 ?k5 ?kA ?kF ?kK ?k6 ?k7 ?k8 ?k9 ?kB ?_ ?c2 ?c3 ?c4 ?c5; walk_at "mine enter")
  k_steps
  rename News _ _ _ _ => N9
  rename x' < _ ∧ d' < _ ∧ D < _ ∧ x < _ ∧ dx < _ ∧ AllLt _ R => lC
  have e1 : (irs + 1) % ring = sq ring ((irs + 1) % ring) 0 := by unfold sq; rw [Int.add_zero, Int.emod_emod]
  have e2 : sq ring irs (1 + room) = sq ring ((irs + 1) % ring) room := by unfold sq; rw [Int.emod_add_emod, Int.add_assoc]
  have e3 : (#[] : Array UInt8) = octs 0 0 := (octs_nil (Int.le_refl 0)).symm
  rw [e1, e2, e3] at N9
  clear e1 e2 e3
  generalize (irs + 1) % ring = bs at *
  obtain ⟨P', N', H', A'⟩ := close6 (R := R) (S := initS ring bs room) (vs := []) N9 ⟨rfl, rfl, .tail _ (.tail _ (.tail _ (.tail _ (.head _)))), .tail _ (.tail _ (.tail _ (.tail _ (.tail _ (.head _))))), .tail _ (.tail _ (.tail _ (.head _))), .tail _ (.head _), .tail _ (.tail _ (.head _)), .head _, True.intro⟩
    (fun p hp => .tail _ (.tail _ (.tail _ (.tail _ (.tail _ (.tail _ hp)))))) nt l5 l4 (allLt_ne lD.2.2) (fun p hp => Nat.ne_of_lt (Nat.lt_trans (ktn_ltOf lA.2.2.2 p hp) lB)) (allLt_ne lA.2.2.2) (allLt_ne lC.2.2.2.2.2)
  exact hret _ _ _ _ (by k_asm) N' ⟨x, P', rfl, H', A', rfl⟩
end

theorem anew_24 : True := by w_top off; trivial
/-! The law's own helpers -/
noncomputable def IntsV (vs : List Value) : Prop := ∀ v ∈ vs, ∃ i t, v = .int i t
/-- the source of the draws: a figure, a blend, a row -/
noncomputable abbrev srcO (a b : Int) (ta tb : Tok) (sl : Addr) (n : Nat) : Obj := listOf [Value.int a ta, .int b tb, .ref sl].toArray n
noncomputable abbrev rowO (vs : List Value) (n : Nat) : Obj := listOf vs.toArray n
theorem fmod_rng {a t : Int} (h : 0 < t) : 0 ≤ a.fmod t ∧ a.fmod t < t := by rw [fm h]; exact ⟨Int.emod_nonneg _ (by (first | lia | omega)), Int.emod_lt_of_pos _ h⟩
theorem fdiv_nn {a t : Int} (h : 0 < t) (ha : 0 ≤ a) : 0 ≤ a.fdiv t := Int.fdiv_nonneg ha (Int.le_of_lt h)
theorem IntsV.tail {v : Value} {vs : List Value} (h : IntsV (v :: vs)) : IntsV vs := fun x hx => h x (.tail _ hx)
section
variable {w : World} {mean : ExcName → Option Value} {mg mb : Str → Option Value} {R : Led}
inductive DrPost (g2 : Obj → Obj → Led) (sl : Addr) (top : Int) (y : Value) (n' : Led) : Prop
  | mk : ∀ x tx a' b' ta' tb' n1' n2' vs', n' = g2 (srcO a' b' ta' tb' sl n1') (rowO vs' n2') → y = .int x tx → (0 ≤ x ∧ x < top) → 0 ≤ a' → (0 ≤ b' ∧ b' < 2147483647) → IntsV vs' → vs'.length ≤ 64 → DrPost g2 sl top y n'
theorem draw_spec0 {src sl : Addr} {a b top : Int} {ta tb tt : Tok} {n1 n2 : Nat} {vs : List Value} (hne : src ≠ sl) (r1 : ∀ p ∈ R, p.1 ≠ src) (r2 : ∀ p ∈ R, p.1 ≠ sl) (ht : 0 < top ∧ top ≤ 64) (ha : 0 ≤ a) (hb : 0 ≤ b ∧ b < 2147483647) (hvs : IntsV vs) (hl : vs.length ≤ 64) :
    Spec w mean mg mb 293 6 [.ref src, .int top tt] ((src, srcO a b ta tb sl n1) :: (sl, rowO vs n2) :: R)
      (DrPost (fun o1 o2 => (src, o1) :: (sl, o2) :: R) sl top) := by
  unfold Spec; k_fill; intro dp un gd cn cs a' ccd cl outer A₀ base h₀ L m s Q E B F X N T hk hdp hun hret
  refine wpAny_call ?_
  k_dflt (refine' code_defM [("top", .int top tt), ("source", .ref src)] ?k1 ?k2 ?k3 ?k4 ?k5 ?kA ?kF ?kK ?k6 ?k7 ?k8 ?k9 ?kB ?_ ?c2 ?c3 ?c4 ?c5; walk_at "mine enter")
  cases vs with
  | cons v r =>
    obtain ⟨i, ti, rfl⟩ := hvs v (.head _)
    k_steps
    rename News _ _ _ _ => N9
    rw [List.length_cons] at hl
    exact hret _ ((src, srcO a b ta tb sl n1) :: (sl, rowO r (n2 + 1)) :: R) _ _ (by assumption) (fun p hp => N9 p (.tail _ hp)) ⟨_, _, _, _, _, _, _, _, _, rfl, rfl, fmod_rng ht.1, ha, hb, hvs.tail, by (first | lia | omega)⟩
  | nil =>
    k_steps
    · rename News _ _ _ _ => N9
      exact hret _ ((src, srcO (a.fdiv top) b _ tb sl n1) :: (sl, rowO [] n2) :: R) _ _ (by assumption) (fun p hp => N9 p (.tail _ hp)) ⟨_, _, _, _, _, _, _, _, _, rfl, rfl, fmod_rng ht.1, fdiv_nn ht.1 ha, hb, hvs, hl⟩
    · rename News _ _ _ _ => N9
      exact hret _ ((src, srcO a ((b * 39373 + 7).fmod 2147483647) ta _ sl n1) :: (sl, rowO [] n2) :: R) _ _ (by assumption) (fun p hp => N9 p (.tail _ hp)) ⟨_, _, _, _, _, _, _, _, _, rfl, rfl, fmod_rng ht.1, ha, fmod_rng (by decide), hvs, hl⟩
/-- the two objects wherever they stand in the ledger -/
theorem draw_spec {src sl : Addr} {a b top : Int} {ta tb tt : Tok} {n1 n2 : Nat} {vs : List Value} {news : Led} {g1 : Obj → Led} {g2 : Obj → Obj → Led} (U1 : UpdF src (srcO a b ta tb sl n1) news g1) (U2 : ∀ o, UpdF sl (rowO vs n2) (g1 o) (g2 o)) (hne : src ≠ sl)
    (ht : 0 < top ∧ top ≤ 64) (ha : 0 ≤ a) (hb : 0 ≤ b ∧ b < 2147483647) (hvs : IntsV vs) (hl : vs.length ≤ 64) :
    Spec w mean mg mb 293 6 [.ref src, .int top tt] news
      (DrPost g2 sl top) := by
  unfold Spec
  intro dp un gd cn cs a' ccd cl outer A₀ base h₀ L m s Q E B F X N T hk hdp hun hret
  obtain ⟨pre, post, e1, e2, d1, d2⟩ := U1.split
  have m1 : (src, srcO a b ta tb sl n1) ∈ news := by rw [e1]; exact List.mem_append.mpr (.inr (.head _))
  have m2 : (sl, rowO vs n2) ∈ news := by
    obtain ⟨pre2, post2, f1, _, _, _⟩ := (U2 (srcO a b ta tb sl n1)).split
    rw [e1, ← e2, f1]; exact List.mem_append.mpr (.inr (.head _))
  have hf : ∀ p ∈ news.filter (fun p => decide (p.1 ≠ src ∧ p.1 ≠ sl)), p ∈ news ∧ p.1 ≠ src ∧ p.1 ≠ sl := fun p hp => ⟨(List.mem_filter.mp hp).1, of_decide_eq_true (List.mem_filter.mp hp).2⟩
  have N2 : News h₀ L s.heap ((src, srcO a b ta tb sl n1) :: (sl, rowO vs n2) :: news.filter fun p => decide (p.1 ≠ src ∧ p.1 ≠ sl)) := fun p hp => by
    rcases List.mem_cons.mp hp with rfl | hp
    · exact N _ m1
    rcases List.mem_cons.mp hp with rfl | hp
    · exact N _ m2
    · exact N _ (hf p hp).1
  refine Spec.use (draw_spec0 hne (fun p hp => (hf p hp).2.1) (fun p hp => (hf p hp).2.2) ht ha hb hvs hl) B F X N2 T hk hdp hun ?_
  rintro y n' h' tk' F' N' ⟨x, tx, a1, b1, ta1, tb1, k1, k2, vs1, rfl, rfl, z1, z2, z3, z4, z5⟩
  refine hret _ (g2 (srcO a1 b1 ta1 tb1 sl k1) (rowO vs1 k2)) _ _ F' (fun p hp => ?_) ⟨x, tx, a1, b1, ta1, tb1, k1, k2, vs1, rfl, rfl, z1, z2, z3, z4, z5⟩
  obtain ⟨pre2, post2, f1, f2, f3, f4⟩ := (U2 (srcO a1 b1 ta1 tb1 sl k1)).split
  rw [f2] at hp
  rw [e2] at f1
  have hp2 : p = (sl, rowO vs1 k2) ∨ (p ∈ pre ++ (src, srcO a1 b1 ta1 tb1 sl k1) :: post ∧ p.1 ≠ sl) := by
    rw [f1]
    rcases List.mem_append.mp hp with h | h
    · exact .inr ⟨List.mem_append.mpr (.inl h), f3 p h⟩
    rcases List.mem_cons.mp h with h | h
    · exact .inl h
    · exact .inr ⟨List.mem_append.mpr (.inr (.tail _ h)), f4 p h⟩
  rcases hp2 with rfl | ⟨hp2, hs⟩
  · exact N' _ (.tail _ (.head _))
  rcases List.mem_append.mp hp2 with h | h
  · exact N' _ (.tail _ (.tail _ (List.mem_filter.mpr ⟨by rw [e1]; exact List.mem_append.mpr (.inl h), decide_eq_true ⟨d1 p h, hs⟩⟩)))
  rcases List.mem_cons.mp h with rfl | h
  · exact N' _ (.head _)
  · exact N' _ (.tail _ (.tail _ (List.mem_filter.mpr ⟨by rw [e1]; exact List.mem_append.mpr (.inr (.tail _ h)), decide_eq_true ⟨d2 p h, hs⟩⟩)))
end
theorem say_24_1 : True := by
  k_with "call ref" => ((k_here; (with_reducible show wpAny _ _ (call (Value.ref 293) _) _ _ _); k_dflt (
  (refine' Spec.use (draw_spec ?U1 ?U2 ?h0 ?h1 ?h2 ?h3 ?h4 ?h5) ?B ?F ?X ?N ?T ?hk ?hd ?hu ?_; walk_at "mine use"; (case U1 => k_updF); (case U2 => (intro o9Z; k_updF)); (case h0 => walk_at "mine ne"); (case h1 => decide); (case h2 => assumption); (case h3 => assumption); (case h4 => assumption); (case h5 => assumption))); intro yZ' nZ' hZ' tkZ' FZ' NZ' hPZ'; obtain ⟨xZ', txZ', a1Z', b1Z', ta1Z', tb1Z', k1Z', k2Z', vs1Z', e1Z', e2Z', z1Z', z2Z', z3Z', z4Z', z5Z'⟩ := hPZ'; subst e1Z'; subst e2Z'; (try dsimp only at NZ'); (try dsimp only); (try k_sweep); (try k_fold)))
  trivial
theorem say_24_2 : True := by
  k_with "mine ne" => (first | assumption | (refine Ne.symm ?_; assumption))
  trivial
section
variable {w : World} {mean : ExcName → Option Value} {mg mb : Str → Option Value} {R : Led}
end

theorem anew_24a : True := by w_top off; trivial
noncomputable abbrev PRG : Program := PySem.Challenge.rw_on0345_01.row.prog
/-- the book's entries -/
noncomputable abbrev bookKV (n rd edge : Int) (kd : Addr) (fv uv : Value) (over : Bool) (t1 t2 t3 : Tok) : List (Str × Value) :=
  [("next", .int n t1), ("known", .ref kd), ("read", .int rd t2), ("edge", .int edge t3), ("fin", fv), ("over", .bool over), ("urgent", uv)]
noncomputable def OptV (v : Value) : Option Int → Prop
  | none => v = .none
  | some f => ∃ t, v = .int f t
noncomputable def KnownIs (kvs : List (Int × Value)) : Prop := ∀ p ∈ kvs, ∃ t, p.2 = .int (p.1 + 1) t
noncomputable def Keys (kvs : List (Int × Value)) (x : Int) : Prop := ∃ v, (x, v) ∈ kvs
theorem keys_at {kvs : List (Int × Value)} {x : Int} : (valueAt kvs x).isSome = true ↔ Keys kvs x := by
  unfold valueAt Keys
  induction kvs with
  | nil => simp
  | cons p r ih =>
    rw [List.find?_cons]
    by_cases h : p.1 = x
    · simp only [h, decide_true, Option.map_some, Option.isSome_some, true_iff]
      exact ⟨p.2, by rw [← h]; exact .head _⟩
    · simp only [h, decide_false]
      rw [ih]
      constructor
      · rintro ⟨v, hv⟩; exact ⟨v, .tail _ hv⟩
      · rintro ⟨v, hv⟩
        rcases List.mem_cons.mp hv with e | hv
        · exact absurd (by rw [← e]) h
        · exact ⟨v, hv⟩
theorem known_at {kvs : List (Int × Value)} (hk : KnownIs kvs) {x : Int} (h : Keys kvs x) : ∃ t, valueAt kvs x = some (.int (x + 1) t) := by
  obtain ⟨v, hv⟩ := Option.isSome_iff_exists.mp (keys_at.mpr h)
  have h2 : (x, v) ∈ kvs := by
    unfold valueAt at hv
    obtain ⟨p, hp, rfl⟩ := Option.map_eq_some_iff.mp hv
    have h3 := List.find?_some hp
    have h4 : p.1 = x := by simpa using h3
    rw [← h4]
    exact List.mem_of_find?_eq_some hp
  obtain ⟨t, ht⟩ := hk _ h2
  exact ⟨t, by rw [hv]; exact congrArg some ht⟩
theorem stored_new {kvs : List (Int × Value)} {x : Int} {v : Value} (h : ¬ Keys kvs x) : stored kvs x v = kvs ++ [(x, v)] := by
  unfold stored
  rw [if_neg]
  intro ha
  obtain ⟨p, hp, he⟩ := List.any_eq_true.mp ha
  exact h ⟨p.2, by have : p.1 = x := by simpa using he
                   rw [← this]; exact hp⟩
theorem keys_snoc {kvs : List (Int × Value)} {x y : Int} {v : Value} : Keys (kvs ++ [(x, v)]) y ↔ Keys kvs y ∨ y = x := by
  unfold Keys
  constructor
  · rintro ⟨u, hu⟩
    rcases List.mem_append.mp hu with hu | hu
    · exact .inl ⟨u, hu⟩
    · exact .inr (congrArg Prod.fst (List.mem_singleton.mp hu))
  · rintro (⟨u, hu⟩ | rfl)
    · exact ⟨u, List.mem_append.mpr (.inl hu)⟩
    · exact ⟨v, List.mem_append.mpr (.inr (.head _))⟩
theorem valueAt_mem {kvs : List (Int × Value)} {k : Int} {y : Value} : (kvs.map (·.1)).Nodup → (k, y) ∈ kvs → valueAt kvs k = some y := by
  unfold valueAt
  induction kvs with
  | nil => intro _ h; exact nomatch h
  | cons p r ih =>
    intro hn h
    rw [List.map_cons, List.nodup_cons] at hn
    rw [List.find?_cons]
    rcases List.mem_cons.mp h with rfl | h
    · simp
    · have : p.1 ≠ k := fun e => hn.1 (e ▸ List.mem_map.mpr ⟨_, h, rfl⟩)
      simp only [this, decide_false]
      exact ih hn.2 h
theorem dict_nodup {prog : Program} {w : World} {o : Obj} {kvs : List (Int × Value)} (h : o.IsDictOf (PySem.intKind prog w) kvs) : (kvs.map (·.1)).Nodup := let ⟨_, _, _, _, _, _, hn⟩ := h; hn
theorem keys_filter {kvs : List (Int × Value)} {f x : Int} : Keys (kvs.filter fun p => decide (p.1 < f)) x ↔ Keys kvs x ∧ x < f := by
  unfold Keys
  constructor
  · rintro ⟨v, hv⟩
    obtain ⟨h1, h2⟩ := List.mem_filter.mp hv
    exact ⟨⟨v, h1⟩, of_decide_eq_true h2⟩
  · rintro ⟨⟨v, hv⟩, h⟩
    exact ⟨v, List.mem_filter.mpr ⟨hv, decide_eq_true h⟩⟩

theorem anew_24b : True := by w_top off; trivial
section
variable {prog : Program} {w : World} {A : Around} {E : Value → Shared → Prop} {s : Shared} {env : Env} {h₀ : Heap} {x : Str} {body : List Stmt} {Q : Flow → Shared → Prop}
/-- a loop over a range by ones, by an invariant over the turn's number, the frame and the ledger -/
theorem my_range {r : Addr} {a₀ b₀ : Int} {t₀ u₀ v₀ : Tok} {n : Nat} {m₀ : Str → Option Value} {news : Led} (J : Nat → (Str → Option Value) → Led → Prop)
    (hh : A.handled = none) (hr : IsRange s.heap r a₀ b₀ 1 t₀ u₀ v₀) (hb : -1000 ≤ a₀ ∧ a₀ ≤ 1000 ∧ -1000 ≤ b₀ ∧ b₀ ≤ 1000) (hsz : (b₀ - a₀).toNat = n) (F : Fr h₀ env.locals s.heap m₀) (N : News h₀ env.locals s.heap news) (hj : J 0 m₀ news)
    (turn : ∀ (i : Nat) t m₁ nx h tk own, i < n → (∀ p ∈ own, ∀ q ∈ nx, q.1 ≠ p.1) → J i m₁ nx → Fr h₀ env.locals h (fun y => if y = x then some (.int (a₀ + i) t) else m₁ y) → News h₀ env.locals h (nx ++ own) →
      ∀ Qz, (∀ f s₂, InvPostG h₀ env.locals (J (i + 1)) own { s with heap := h, toks := tk } Q f s₂ → EndOf Qz f s₂) → wpAny (model prog w) A (execs body env) (EndOf Qz) E { s with heap := h, toks := tk })
    (done : ∀ m₁ nx h tk, J n m₁ nx → Fr h₀ env.locals h m₁ → News h₀ env.locals h nx → Q .next { s with heap := h, toks := tk }) :
    wpAny (model prog w) A (pyIter (.ref r)) (fun it s₂ => LoopAtV prog w A h₀ env x body Q E it s₂) E s := by
  have hsz' : Builtin.Range.rangeSize a₀ b₀ 1 = (n : Int) := by rw [rangeSize_nat, hsz]
  refine wpAny_pyIter_range hr (small_one (by (first | lia | omega)) (by (first | lia | omega)) (by (first | lia | omega)) (by (first | lia | omega))) ?_
  have W : Walks prog w A s.heap.objs.size [s.heap.objs.size] [s.heap.objs.size] n (fun i v => i < n ∧ ∃ t, v = .int (a₀ + i * 1) t)
      (fun i h => IsRangeIter h s.heap.objs.size (a₀ + (i : Nat) * 1) ((n : Int) - (i : Nat)) 1) := (Walks.range hh _ a₀ 1 n).bound
  refine kdr_loop J W (fun _ h => h) (fun _ h => h) ?_ ?_ ?_ ?_ (by show IsRangeIter _ _ _ _ _; rw [hsz']; simpa using Heap.get?_push_size _ rfl) (F.push _) (fun p hp => ⟨Heap.get?_push_of_some _ (N p hp).1, (N p hp).2⟩) hj ?_ ?_
  · intro i h hi b hb
    rw [List.mem_singleton.mp hb]
    exact ⟨_, hi⟩
  · intro hm
    exact absurd F.ns.lt ((List.mem_singleton.mp hm) ▸ Nat.lt_irrefl _)
  · intro b hb
    rw [List.mem_singleton.mp hb]
    exact next_is_new F
  · intro p hp hI
    exact absurd (Heap.lt_size (N p hp).1) ((List.mem_singleton.mp hI) ▸ Nat.lt_irrefl _)
  · rintro i v m₁ nx h tk own hi ⟨_, t, rfl⟩ hoff hJ F₁ N₁
    have e1 : a₀ + (i : Int) * 1 = a₀ + (i : Int) := by (first | lia | omega)
    rw [e1] at F₁
    exact turn i t m₁ nx h tk own hi (fun p hp q hq => (hoff p hp q.1 (List.mem_map_of_mem hq)).symm) hJ F₁ N₁ _ fun _ _ x => x
  · exact done
/-- a turn's end -/
theorem range_end {m' : Str → Option Value} {own news' nx : Led} {s₁ : Shared} {h' : Heap} {tk : Nat} {L : Addr} {J : (Str → Option Value) → Led → Prop} (F : Fr h₀ L h' m') (N : News h₀ L h' news')
    (hj : J m' nx) (ha : ∀ p ∈ own, ∀ q ∈ nx, q.1 ≠ p.1) (hn : ∀ p ∈ nx ++ own, p ∈ news') : InvEndG h₀ L J own s₁ { s₁ with heap := h', toks := tk } :=
  InvEndG.intro F N hj (fun p hp b hb => by obtain ⟨q, hq, rfl⟩ := List.mem_map.mp hb; exact (ha p hp q hq).symm) (fun p hp => hn p (List.mem_append.mpr (.inl hp))) fun p hp => hn p (List.mem_append.mpr (.inr hp))
end
section
variable {prog : Program} {w : World} {A : Around} {E : Value → Shared → Prop} {s : Shared} {value slice : PySem.Expr} {b : Array UInt8} {t tj : Tok} {Q : Value → Shared → Prop} {j p q : Int}
theorem item_O (hb : b = octs p q) (hq : 0 ≤ p ∧ 0 ≤ j ∧ p + j < q ∧ q ≤ 200) (h : ∀ t k, Q (.int (p + j + 1) t) { s with toks := k })
    (hs : subscripted slice false (.bytes (octL p q).toArray t) (.int j tj) = operate [.bytes (octL p q).toArray t, .int j tj] (getItem (.bytes (octL p q).toArray t) (.int j tj)) := by with_unfolding_all rfl)
    (ht : ∀ r, letTemporaryGo value (.bytes (octL p q).toArray t) r = pure () := by intro _; with_unfolding_all rfl) :
    wpAny (model prog w) A (subscriptTail value slice (.bytes b t) (.int j tj)) Q E s := by
  subst hb
  have hl := octL_length p q
  have hj : j < q - p := Int.lt_sub_left_of_add_lt hq.2.2.1
  have h5 : (p + j).toNat < 200 := (Int.toNat_lt (Int.add_nonneg hq.1 hq.2.1)).mpr (Int.lt_of_lt_of_le hq.2.2.1 hq.2.2.2)
  rw [Int.toNat_add hq.1 hq.2.1] at h5
  have e : (octL p q).getD j.toNat 0 = UInt8.ofNat (p.toNat + j.toNat + 1) := by
    rw [List.getD_eq_getElem?_getD, octL_get (by rw [Int.toNat_of_nonneg hq.2.1]; exact hj)]; rfl
  have hl2 : ((octL p q).length : Int) = q - p := by rw [hl, Int.toNat_of_nonneg (Int.le_of_lt (Int.lt_of_le_of_lt hq.2.1 hj))]
  refine KBy.item_N (x := octL p q) (by (first | lia | omega)) hq.2.1 (by rw [hl2]; exact hj) ?_ hs ht
  rw [e]
  have e2 : ((UInt8.ofNat (p.toNat + j.toNat + 1)).toNat : Int) = p + j + 1 := by
    have h6 : p.toNat + j.toNat + 1 < 2 ^ 8 := Nat.lt_trans (Nat.succ_lt_succ h5) (by decide)
    rw [UInt8.toNat_ofNat', Nat.mod_eq_of_lt h6, Int.natCast_add, Int.natCast_add, Int.toNat_of_nonneg hq.1, Int.toNat_of_nonneg hq.2.1]
    rfl
  rw [e2]
  exact h _ _
end
theorem say_24b_1 : True := by
  k_with "subscriptTail" => ((k_here; (with_reducible show wpAny _ _ (subscriptTail _ _ (Value.bytes _ _) (Value.int _ _)) _ _ _); refine item_O (by walk_at "mine octs") (by walk_at "mine om") ?_; intro tZ' kZ'))
  trivial
theorem say_24b_2 : True := by
  k_with "pyIter ref" => ((k_here; refine stop_ ?_))
  trivial

theorem anew_24c : True := by w_top off; trivial
/-! dict(a list of pairs), comprehensions over a dict's keys -/
section
open Sem (wp)
variable {prog : Program} {w : World} {A : Around} {E : Value → Shared → Prop} {s : Shared}
theorem list_no_keys {a : Addr} {xs : Array Value} {k : Nat} {Q : Option Value → Shared → Prop}
    (hx : s.heap.get? a = some { cls := .type "list", data := .seq xs k }) (hA : A.handled = none) (h : ∀ h' tk, (∀ b o, s.heap.get? b = some o → h'.get? b = some o) → Q none { s with heap := h', toks := tk }) :
    wpAny (model prog w) A (getAttr? (.ref a) "keys") Q E s := by
  obtain ⟨hp, g, d, tk, os⟩ := s
  have hT : ∀ tk', (⟨hp, g, d, tk', os⟩ : Shared).TypeIs (.ref a) "list" := fun _ => ⟨_, hx, rfl⟩
  have f1 := sub_AttributeError
  have f3 := F.slot_list_getattribute.lookup
  have f4 := F.slot_list_getattribute.bind (.ref a)
  have f5 := am_list_getattr_none
  have hmiss : typeLookup (.type "list") "keys" = pure none := by rw [typeLookup_type, builtinLookup_eq_fast]; kernel_rfl
  unfold getAttr? getAttrBy? getAttrBy
  repeat (any_goals (first | assumption | exact hT _ | ((with_reducible show wpAny _ _ (call (Value.builtin "list.__getattribute__") _ _) _ _ _); refine call_meets F.slot_list_getattribute (hT _) am_entry_list_getattribute (F.args_list_getattribute_2 _ _) (meets_getattribute_miss_list a xs k #[] "keys" _ hmiss (by decide) (by decide +kernel)) ⟨hx, hA, fun h' tk' e hx' => ?_⟩) | wp_step))
  obtain ⟨t', u', he⟩ := hx'.there
  show wpAny _ _ (getattributeRaised _ _ _ _ _ _ _) _ _ _
  unfold getattributeRaised
  repeat (any_goals (first | assumption | wp_step))
  exact h _ _ hx'.keeps
end
theorem entry_dict_loop : entryFor table "dict.update.loop" = some Builtin.«dict.update.loop» := entryFor_of_tree (by kernel_rfl)
theorem plain_dict_loop : plainId "dict.update.loop" = true := by decide +kernel
section
variable {prog : Program} {w : World} {A : Around} {R : Result → Shared → Prop} {E : Value → Shared → Prop} {s : Shared}
theorem take_snoc {α : Type} {l : List α} {i : Nat} {p : α} (h : l[i]? = some p) : l.take (i + 1) = l.take i ++ [p] := by
  rw [List.take_add_one, h]; rfl
theorem stored_take {ps : List (Int × Value)} {i : Nat} {p : Int × Value} (hn : (ps.map (·.1)).Nodup) (h : ps[i]? = some p) : stored (ps.take i) p.1 p.2 = ps.take (i + 1) := by
  rw [take_snoc h, stored_new]
  rintro ⟨v, hv⟩
  have h1 : (p.1) ∈ (ps.take i).map (·.1) := List.mem_map.mpr ⟨_, hv, rfl⟩
  have h2 : ps.map (·.1) = (ps.take i).map (·.1) ++ p.1 :: (ps.drop (i + 1)).map (·.1) := by
    conv => lhs; rw [← List.take_append_drop i ps, drop_cons h]
    rw [List.map_append, List.map_cons]
  rw [h2, List.nodup_append] at hn
  exact hn.2.2 _ h1 _ (.head _) rfl
theorem pair_items {T : Addr} {k v : Value} {Q : List Value → Shared → Prop} (h : s.heap.get? T = some (tup2 k v)) (q : Q [k, v] s) : wpAny (model prog w) A (Builtin.Dict.pairItems (.ref T)) Q E s := by
  unfold Builtin.Dict.pairItems
  refine wpAny_bind (wpAny_typeOf (T := "tuple") ⟨_, h, rfl⟩ ?_)
  rw [if_pos (by decide)]
  refine wpAny_bind (wpAny_seqItems h rfl ?_)
  exact wpAny_pure q
theorem dict_loop {l I d : Addr} {items : Array Value} {ps : List (Int × Value)} (hh : A.handled = none) (hne : l ≠ I) (hdI : d ≠ I) (hdl : d ≠ l) (hlen : items.size = ps.length) (hnd : (ps.map (·.1)).Nodup) (hsz : ps.length ≤ 10000) :
    ∀ (k i : Nat) (s : Shared), ps.length - i = k → i ≤ ps.length → (s.heap.IsListIter I l i ∧ s.heap.IsList l items) → s.heap.DictOf (PySem.intKind prog w) d (ps.take i) →
      (∀ (j : Nat) p, ps[j]? = some p → ∃ T t, items[j]? = some (.ref T) ∧ T ≠ d ∧ T ≠ I ∧ s.heap.get? T = some (tup2 (.int p.1 t) p.2)) →
      (∀ h' tk, (∀ b o, b ≠ d → b ≠ I → s.heap.get? b = some o → h'.get? b = some o) → h'.DictOf (PySem.intKind prog w) d ps → R (.ok (.ret .none)) { s with heap := h', toks := tk }) →
      codeAny (model prog w) A (.builtin "dict.update.loop" ⟨[.ref d, .ref I, rawInt i, .none], []⟩) R s := by
  have W := Walks.list (prog := prog) (w := w) (A := A.in1) hh I l hne items
  intro k
  induction k with
  | zero =>
    intro i s hk hi hst hd hp hR
    have hin : i = ps.length := by (first | lia | omega)
    subst hin
    refine codeAny_builtin entry_dict_loop ?_
    rw [Around.under_plainId plain_dict_loop _]
    show wpAny _ A.in1 (pyNext (.ref I) >>= _) _ _ s
    refine wpAny_bind (W.done s _ _ (by rw [hlen]; exact hst) fun h' tk hm => ?_)
    dsimp only
    refine wpAny_bind (m := Builtin.Dict.addKeywords d []) (wpAny_pure ?_)
    refine wpAny_pure (hR h' tk (fun b o _ hb e => hm b o (by simpa using hb) e) ?_)
    rw [List.take_length] at hd
    obtain ⟨o, es, ep, ho, r⟩ := hd
    exact ⟨o, es, ep, hm d _ (by simpa using hdI) ho, r⟩
  | succ k ih =>
    intro i s hk hi hst hd hp hR
    have hlt : i < ps.length := by (first | lia | omega)
    have hpi : ps[i]? = some ps[i] := List.getElem?_eq_getElem hlt
    obtain ⟨T, t, hT, n1, n2, hto⟩ := hp i _ hpi
    refine codeAny_builtin entry_dict_loop ?_
    rw [Around.under_plainId plain_dict_loop _]
    show wpAny _ A.in1 (pyNext (.ref I) >>= _) _ _ s
    refine wpAny_bind (W.item i s _ _ (by rw [hlen]; exact hlt) hst fun v h1 tk1 hv hst1 hm => ?_)
    rw [hT] at hv
    injection hv with hv
    subst hv
    have hd1 : h1.DictOf (PySem.intKind prog w) d (ps.take i) := by
      obtain ⟨o, es, ep, ho, r⟩ := hd
      exact ⟨o, es, ep, hm d _ (by simpa using hdI) ho, r⟩
    refine wpAny_bind (wpAny_holding ?_)
    refine wpAny_bind (wpAny_tryCatch (pair_items (hm T _ (by simpa using n2) hto) ?_))
    dsimp only
    refine wpAny_holding ?_
    refine wpAny_dictSet_pairs (knd := PySem.intKind prog w) (hsz := by rw [sizeLine_eq, List.length_take]; (first | lia | omega)) (intKind_is _ _ _ _) hd1 fun h2 hd2 hs2 => ?_
    rw [stored_take hnd hpi] at hd2
    have key : ∀ b o, b ≠ d → b ≠ I → s.heap.get? b = some o → h2.get? b = some o := fun b o b1 b2 e => (hs2.2 b b1).trans (hm b o (by simpa using b2) e)
    refine wpAny_pure ⟨plainId_quiet plain_dict_loop _, ?_⟩
    refine ih (i + 1) _ (by (first | lia | omega)) hlt (W.frame (i + 1) _ _ hst1 fun b hb o e => ?_) hd2 (fun j p hj => ?_) fun h' tk hk' hd' => ?_
    · refine (hs2.2 b fun e' => ?_).trans e
      rcases List.mem_cons.mp hb with rfl | hb
      · exact hdI e'.symm
      · exact hdl ((List.mem_singleton.mp hb).symm.trans e').symm
    · obtain ⟨T', t', a1, a2, a3, a4⟩ := hp j p hj
      exact ⟨T', t', a1, a2, a3, key _ _ a2 a3 a4⟩
    · exact hR h' tk (fun b o b1 b2 e => hk' b o b1 b2 (key b o b1 b2 e)) hd'
theorem dict_of_pairs {h₀ : Heap} {L l : Addr} {m : Str → Option Value} {news : Led} {vs : List Value} {n : Nat} {ps : List (Int × Value)} {Q : Value → Shared → Prop} (hh : A.handled = none) (hbig : h₀.NoLimit) (F : Fr h₀ L s.heap m) (N : News h₀ L s.heap news) (hl : (l, listOf vs.toArray n) ∈ news)
    (hlen : vs.length = ps.length) (hnd : (ps.map (·.1)).Nodup) (hsz : ps.length ≤ 10000) (hp : ∀ (j : Nat) p, ps[j]? = some p → ∃ T t, vs[j]? = some (.ref T) ∧ (T, tup2 (.int p.1 t) p.2) ∈ news)
    (h : ∀ D h' o tk, Fr h₀ L h' m → News h₀ L h' ((D, o) :: news) → (D == sysModules) = false → o.IsDictOf (PySem.intKind prog w) ps → (∀ p ∈ news, p.1 < D) → Q (.ref D) { s with heap := h', toks := tk }) :
    wpAny (model prog w) A (call (.type "dict") [.ref l]) Q E s := by
  refine callType_codes (Q₁ := fun obj s₁ => obj = .ref s.heap.objs.size ∧ s₁ = { s with heap := s.heap.push { cls := .type "dict", data := .dict #[] } }) PySem.F.kt_called_dict (PySem.F.kt_typeCall_dict_1 _) PySem.F.entry_dict_init (kt_code_dict_new _ ⟨rfl, rfl⟩) ?_
  rintro obj s₁ ⟨rfl, rfl⟩
  have hnew : (s.heap.push { cls := .type "dict", data := .dict #[] }).DictOf (PySem.intKind prog w) s.heap.objs.size [] := Heap.DictOf.new s.heap
  have N1 := N.push F { cls := .type "dict", data := .dict #[] }
  have lt : ∀ p ∈ news, p.1 < s.heap.objs.size := fun p hp => Heap.lt_size (N p hp).1
  have hl1 := (N1 _ (.tail _ hl)).1
  refine ⟨hnew.typeIs, PySem.F.args_dict_init_2 _ _, ?_⟩
  unfold Builtin.«dict.__init__»
  refine wpAny_bind ?_
  unfold Builtin.Dict.selfAndRest
  refine wpAny_bind (wpAny_notOrdered_dict hnew.typeIs ?_)
  show wpAny _ _ (pure (s.heap.objs.size, [Value.ref l])) _ _ _
  refine wpAny_pure ?_
  show wpAny _ _ (Builtin.Dict.updateFrom "dict.__init__" s.heap.objs.size (.ref l) [] .none) _ _ _
  unfold Builtin.Dict.updateFrom
  refine wpAny_bind (wpAny_typeOf (T := "list") ⟨_, hl1, rfl⟩ ?_)
  rw [if_pos (by decide)]
  refine wpAny_bind (list_no_keys hl1 hh fun h2 tk2 hk2 => ?_)
  show wpAny _ _ (rule _ >>= _) _ _ _
  refine wpAny_bind (wpAny_rule ?_)
  have hls2 : h2.IsList l vs.toArray := ⟨_, hk2 _ _ hl1, rfl, n, rfl⟩
  refine wpAny_bind (wpAny_pyIter_list hls2 ?_)
  refine wpAny_pure ⟨plainId_quiet plain_dict_loop _, ?_⟩
  have hlt2 : ∀ b o, (s.heap.push { cls := .type "dict", data := .dict #[] }).get? b = some o → b ≠ h2.objs.size := fun b o e => Nat.ne_of_lt (Heap.lt_size (hk2 b o e))
  have up : ∀ b o, (s.heap.push { cls := .type "dict", data := .dict #[] }).get? b = some o → (h2.push { cls := .type "list_iterator", data := .fields #[.ref l, .int 0 0] }).get? b = some o := fun b o e => Heap.get?_push_of_some _ (hk2 b o e)
  have hd2 : (h2.push { cls := .type "list_iterator", data := .fields #[.ref l, .int 0 0] }).DictOf (PySem.intKind prog w) s.heap.objs.size (ps.take 0) := by
    obtain ⟨o, es, ep, ho, r⟩ := hnew
    exact ⟨o, es, ep, up _ _ ho, r⟩
  have hdI : s.heap.objs.size ≠ h2.objs.size := by
    obtain ⟨o, es, ep, ho, r⟩ := hnew
    exact hlt2 _ _ ho
  refine dict_loop (A := A.in1) (l := l) (items := vs.toArray) (ps := ps) hh (hlt2 _ _ hl1) hdI (Nat.ne_of_gt (lt _ hl)) (by rw [List.size_toArray]; exact hlen) hnd hsz ps.length 0 ⟨_, _, _, _, _⟩ (by (first | lia | omega)) (Nat.zero_le _) ⟨⟨_, Heap.get?_push_size _ rfl, rfl, rfl⟩, _, up _ _ hl1, rfl, n, rfl⟩ hd2 (fun j p hj => ?_) fun h3 tk3 hk3 hd3 => ?_
  · obtain ⟨T, t, a1, a2⟩ := hp j p hj
    have a3 := (N1 _ (.tail _ a2)).1
    exact ⟨T, t, by simpa using a1, Nat.ne_of_lt (lt _ a2), hlt2 _ _ a3, up _ _ a3⟩
  · obtain ⟨o, ho, hdo⟩ := Heap.dictOf_iff.mp hd3
    have keep : ∀ b o, s.heap.get? b = some o → h3.get? b = some o := fun b o e => hk3 b o (Nat.ne_of_lt (Heap.lt_size e)) (hlt2 _ _ (Heap.get?_push_of_some _ e)) (up _ _ (Heap.get?_push_of_some _ e))
    refine ⟨rfl, h s.heap.objs.size h3 o tk3 (F.keeps keep) (news_pushed F N keep ho rfl) (F.notModules (modules_low hbig)) hdo lt⟩
end

theorem anew_24d : True := by w_top off; trivial
section
open PyProof.Rows.LCg PyProof.Rows.LCt
variable {prog : Program} {w : World} {A : Around} {E : Value → Shared → Prop} {s : Shared} {h₀ : Heap} {L : Addr} {m : Str → Option Value} {env : Env}
/-- the source of a comprehension is the dict d of the ledger -/
noncomputable def CompSrcD (prog : Program) (w : World) (A : Around) (h₀ : Heap) (L : Addr) (m : Str → Option Value) (env : Env) (ct elt : Expr) (x : Str) (scope : Scope) (cl : List (Str × Addr)) (Fin : Shared → List Value → Led → Prop) (xv : Value) (s₁ : Shared) : Prop :=
  ∃ d o ep kvs news, xv = .ref d ∧ A.handled = none ∧ Fr h₀ L s₁.heap m ∧ News h₀ L s₁.heap news ∧ (d, o) ∈ news ∧ KdkAt (PySem.intKind prog w) o kvs ep ∧ (d == sysModules) = false ∧ kvs.length ≤ sizeLine ∧
    ∀ g : Heap, CompRestT prog w A h₀ L m env ct elt x scope cl { s₁ with heap := g } (fun nw => (d, o) ∈ nw) (fun i v => ∃ k y, kvs[i]? = some (k, y) ∧ (PySem.intKind prog w).is k v = true) (Fin { s₁ with heap := g }) kvs.length 0 [] news
theorem ListComp_D {ct elt iter : Expr} {x : Str} {px : Pos} {scope : Scope} {cl : List (Str × Addr)} {pos : Pos} {Q : Value → Shared → Prop} (FrU : Fr h₀ L s.heap m)
    (hclos : closureFor scope env = pure cl) (hcell : ∀ y ∈ scope.names, y.2 ≠ .cell) (hkind : scope.kind = .function)
    (hnames : ∀ y ∈ scope.names, y.2 = .local → scope.names.lookup y.1 = some .local) (hx : scope.names.lookup x = some .local)
    (h : wpAny (model prog w) A (eval iter env) (CompSrcD prog w A h₀ L m env ct elt x scope cl (fun s₂ => FinE h₀ L m s₂ Q)) E s)
    (hs : ∀ x, foldedSetIterable iter env x = pure x := by intro _; rfl) :
    wpAny (model prog w) A (eval (.ListComp elt [⟨.Name x px, iter, [ct], 0⟩] scope pos) env) Q E s := by
  rw [eval_ListComp]
  refine wpAny_comprehension_free (use := none) rfl hs hclos hkind hnames (wpAny_mono h (fun xv s₁ h₁ => ?_) fun _ _ e => e)
  obtain ⟨d, o, ep, kvs, news, rfl, hh, F, N, hd, hK, lo, hsz, R⟩ := h₁
  have hm : s₁.heap.DictAt (PySem.intKind prog w) d kvs ep := hK.dictAt (N _ hd).1
  have hlt : d < s₁.heap.objs.size := Heap.lt_size (N _ hd).1
  refine wpAny_pyIter_dict lo hm ?_
  have up : ∀ b ob, s₁.heap.get? b = some ob → (s₁.heap.push { cls := .type "dict_keyiterator", data := .fields #[.ref d, .int 0 0, .int kvs.length 0, .int ep 0] }).get? b = some ob := fun b ob e => Heap.get?_push_of_some _ e
  refine block_T (Walks.dictKeys hh s₁.heap.objs.size d (Nat.ne_of_lt hlt) kvs ep) hsz (fun i h st => by obtain ⟨o', e, _⟩ := st.1; exact ⟨o', e⟩) (fun i h h' o' nw st e1 e2 _ N' hS => ⟨st.1.at fun o9 e => by rw [e1] at e; rw [← e]; exact e2, hK.dictAt (N' _ hS).1⟩) hcell hkind hx ⟨⟨_, Heap.get?_push_size _ rfl, rfl, rfl⟩, hm.push _⟩ (fun b hb => ?_)
    (F.keeps up) (N.grown up) (Nat.ne_of_lt F.ns.lt) (next_is_new F) (fun p hp => Nat.ne_of_lt (Heap.lt_size (N p hp).1)) hd (R _) ?_
  · show b < (s₁.heap.push _).objs.size
    rw [Heap.size_push]
    rcases List.mem_cons.mp hb with rfl | hb
    · exact Nat.lt_succ_self _
    · rw [List.mem_singleton.mp hb]; exact Nat.lt_succ_of_lt hlt
  · intro D C h tk m' ys news' F' N' o1 hn hC₀ hD₀ hCL hDL hCD offC fin
    refine ⟨m', hn, fun h'' hs'' => fin D h'' tk (F'.change hs'' hCL hC₀) (fun p hp => ?_) o1⟩
    refine ⟨hs''.extBut _ _ ?_ (N' p hp).1, (N' p hp).2⟩
    rcases List.mem_cons.mp hp with rfl | hp
    · exact Ne.symm hCD
    · exact offC p hp
end
noncomputable def PairsIn (nw : Led) : List Value → List (Int × Value) → Prop
  | [], [] => True
  | v :: vs, p :: ps => (∃ T t, v = .ref T ∧ (T, tup2 (.int p.1 t) p.2) ∈ nw) ∧ PairsIn nw vs ps
  | _, _ => False
theorem PairsIn.mono {nw nw' : Led} (hs : ∀ p ∈ nw, p ∈ nw') : ∀ {vs : List Value} {ps : List (Int × Value)}, PairsIn nw vs ps → PairsIn nw' vs ps
  | [], [], _ => True.intro
  | [], _ :: _, h => h.elim
  | _ :: _, [], h => h.elim
  | _ :: _, _ :: _, ⟨⟨T, t, e, hm⟩, h⟩ => ⟨⟨T, t, e, hs _ hm⟩, PairsIn.mono hs h⟩
theorem PairsIn.snoc {nw : Led} {T : Addr} {k : Int} {t : Tok} {y : Value} : ∀ {vs : List Value} {ps : List (Int × Value)}, PairsIn nw vs ps → (T, tup2 (.int k t) y) ∈ nw → PairsIn nw (vs ++ [.ref T]) (ps ++ [(k, y)])
  | [], [], _, hm => ⟨⟨T, t, rfl, hm⟩, True.intro⟩
  | [], _ :: _, h, _ => h.elim
  | _ :: _, [], h, _ => h.elim
  | _ :: _, _ :: _, ⟨h1, h⟩, hm => ⟨h1, h.snoc hm⟩
theorem PairsIn.length {nw : Led} : ∀ {vs : List Value} {ps : List (Int × Value)}, PairsIn nw vs ps → vs.length = ps.length
  | [], [], _ => rfl
  | [], _ :: _, h => h.elim
  | _ :: _, [], h => h.elim
  | _ :: _, _ :: _, ⟨_, h⟩ => by rw [List.length_cons, List.length_cons, h.length]
theorem PairsIn.get {nw : Led} : ∀ {vs : List Value} {ps : List (Int × Value)}, PairsIn nw vs ps → ∀ (j : Nat) p, ps[j]? = some p → ∃ T t, vs[j]? = some (.ref T) ∧ (T, tup2 (.int p.1 t) p.2) ∈ nw
  | [], [], _, _, _, e => by simp at e
  | [], _ :: _, h, _, _, _ => h.elim
  | _ :: _, [], h, _, _, _ => h.elim
  | _ :: _, _ :: _, ⟨⟨T, t, e, hm⟩, _⟩, 0, p, hp => by
    simp only [List.getElem?_cons_zero, Option.some.injEq] at hp ⊢
    subst hp
    exact ⟨T, t, e, hm⟩
  | _ :: _, _ :: _, ⟨_, h⟩, j + 1, p, hp => by
    simp only [List.getElem?_cons_succ] at hp ⊢
    exact h.get j p hp
section
open PyProof.Rows.LCg PyProof.Rows.LCt
variable {prog : Program} {w : World} {A : Around} {E : Value → Shared → Prop} {s : Shared} {h₀ : Heap} {L : Addr} {m : Str → Option Value} {env : Env}
/-- an element was made: a pair -/
inductive EltEnd (h₀ : Heap) (L : Addr) (m : Str → Option Value) (s₁ : Shared) (I : Addr) (oI : Obj) (C : Addr) (oC : Obj) (D : Addr) (oD : Obj) (nw : Led) (k : Int) (y : Value) (ok : Prop) (yv : Value) (s₂ : Shared) : Prop
  | mk : ∀ h' tk' T t', s₂ = { s₁ with heap := h', toks := tk' } →
    Fr h₀ L h' m →
    News h₀ L h' ((T, tup2 (.int k t') y) :: (I, oI) :: (C, oC) :: (D, oD) :: nw) →
    (T ≠ I ∧ T ≠ C ∧ T ≠ D) →
    yv = .ref T →
    ok → EltEnd h₀ L m s₁ I oI C oC D oD nw k y ok yv s₂
inductive NoEnd (h₀ : Heap) (L : Addr) (m : Str → Option Value) (s₁ : Shared) (I : Addr) (oI : Obj) (C : Addr) (oC : Obj) (D : Addr) (oD : Obj) (nw : Led) (no : Prop) (s₂ : Shared) : Prop
  | mk : ∀ h' tk', s₂ = { s₁ with heap := h', toks := tk' } →
    Fr h₀ L h' m →
    News h₀ L h' ((I, oI) :: (C, oC) :: (D, oD) :: nw) →
    no → NoEnd h₀ L m s₁ I oI C oC D oD nw no s₂
theorem comp_rest {ct elt : Expr} {x : Str} {scope : Scope} {cl : List (Str × Addr)} {S : Led → Prop} {Fin : List Value → Led → Prop} {kvs : List (Int × Value)} (base : Led) (f : Int) (hS : ∀ tl, S (base ++ tl))
    (turn : ∀ k t y I oI C oC D m₂ ys tl h tk (E' : Value → Shared → Prop), (k, y) ∈ kvs → NsObj oC m₂ → m₂ x = some (.int k t) → Fr h₀ L h m → News h₀ L h ((I, oI) :: (C, oC) :: (D, lst ys) :: (base ++ tl)) → Off3 I C D (base ++ tl) → I ≠ C → I ≠ D → C ≠ D →
      wpAny (model prog w) A (isTrue ct (compEnvC scope cl C env) (eval ct (compEnvC scope cl C env))) (fun b s' => if b = true then
          wpAny (model prog w) A (eval elt (compEnvC scope cl C env)) (EltEnd h₀ L m { s with heap := h, toks := tk } I oI C oC D (lst ys) (base ++ tl) k y (k < f)) E' s'
        else NoEnd h₀ L m { s with heap := h, toks := tk } I oI C oC D (lst ys) (base ++ tl) (¬ k < f) s') E' { s with heap := h, toks := tk })
    (fin : ∀ ys tl, PairsIn (base ++ tl) ys (kvs.filter fun p => decide (p.1 < f)) → Fin ys (base ++ tl)) :
    CompRestT prog w A h₀ L m env ct elt x scope cl s S (fun i v => ∃ k y, kvs[i]? = some (k, y) ∧ (PySem.intKind prog w).is k v = true) Fin kvs.length 0 [] base := by
  have key : ∀ (j i : Nat) (ys : List Value) (tl : Led), i + j = kvs.length → PairsIn (base ++ tl) ys ((kvs.take i).filter fun p => decide (p.1 < f)) →
      CompRestT prog w A h₀ L m env ct elt x scope cl s S (fun i v => ∃ k y, kvs[i]? = some (k, y) ∧ (PySem.intKind prog w).is k v = true) Fin j i ys (base ++ tl) := by
    intro j
    induction j with
    | zero =>
      intro i ys tl hi hy
      have e : i = kvs.length := by (first | lia | omega)
      subst e
      rw [List.take_length] at hy
      exact CompRestT.zero (fin ys tl hy)
    | succ j ih =>
      intro i ys tl hi hy
      refine CompRestT.succ ?_
      intro v I oI C oC D m₂ h tk E' hv hC hx F N off ne
      obtain ⟨k, y, hk, hv'⟩ := hv
      obtain ⟨t, rfl⟩ := Value.isInt_shape hv'
      have hs : (kvs.take (i + 1)).filter (fun p => decide (p.1 < f)) = (kvs.take i).filter (fun p => decide (p.1 < f)) ++ (if k < f then [(k, y)] else []) := by
        rw [take_snoc hk, List.filter_append, List.filter_cons]
        by_cases c : k < f <;> simp [c]
      refine wpAny_mono (turn k t y I oI C oC D m₂ ys tl h tk E' (List.mem_of_getElem? hk) hC hx F N off ne.1 ne.2.1 ne.2.2) (fun b s₂ hq => ?_) fun _ _ e => e
      cases b with
      | true =>
        simp only [if_true] at hq ⊢
        refine wpAny_mono hq (fun yv s₃ hr => ?_) fun _ _ e => e
        obtain ⟨h', tk', T, t', e, F', N', off', rfl, hkf⟩ := hr
        refine ⟨h', tk', base ++ ((T, tup2 (.int k t') y) :: tl), e, F', fun p hp => N' p ?_, Off3.of fun p hp => ?_, hS _, ih (i + 1) _ _ (by (first | lia | omega)) ?_⟩
        · simp only [List.mem_cons, List.mem_append] at hp ⊢
          rcases hp with h | h | h | h | h | h <;> simp [h]
        · rcases List.mem_append.mp hp with hp | hp
          · exact off.mem p (List.mem_append.mpr (.inl hp))
          · rcases List.mem_cons.mp hp with rfl | hp
            · exact off'
            · exact off.mem p (List.mem_append.mpr (.inr hp))
        · rw [hs, if_pos hkf]
          refine (hy.mono fun p hp => ?_).snoc (t := t') (List.mem_append.mpr (.inr (.head _)))
          rcases List.mem_append.mp hp with hp | hp
          · exact List.mem_append.mpr (.inl hp)
          · exact List.mem_append.mpr (.inr (.tail _ hp))
      | false =>
        simp only [Bool.false_eq_true, if_false] at hq ⊢
        obtain ⟨h', tk', e, F', N', hkf⟩ := hq
        refine ⟨h', tk', base ++ tl, e, F', N', off, hS _, ih (i + 1) _ _ (by (first | lia | omega)) ?_⟩
        rw [hs, if_neg hkf, List.append_nil]
        exact hy
  have := key kvs.length 0 [] [] (by (first | lia | omega)) True.intro
  rw [List.append_nil] at this
  exact this
end
section
open PyProof.Rows.LCg
variable {prog : Program} {w : World} {A : Around} {E : Value → Shared → Prop} {s : Shared} {h₀ : Heap} {L : Addr} {m : Str → Option Value} {env : Env}
/-- an element was made: an int -/
inductive IntEnd (h₀ : Heap) (L : Addr) (m : Str → Option Value) (s₁ : Shared) (I : Addr) (oI : Obj) (C : Addr) (oC : Obj) (D : Addr) (oD : Obj) (nw : Led) (k : Int) (yv : Value) (s₂ : Shared) : Prop
  | mk : ∀ h' tk' t', s₂ = { s₁ with heap := h', toks := tk' } →
    Fr h₀ L h' m →
    News h₀ L h' ((I, oI) :: (C, oC) :: (D, oD) :: nw) →
    yv = .int k t' → IntEnd h₀ L m s₁ I oI C oC D oD nw k yv s₂
theorem comp_ints {elt : Expr} {x : Str} {scope : Scope} {cl : List (Str × Addr)} {S : Led → Prop} {Fin : List Value → Led → Prop} {n : Nat} {a : Int} (base : Led) (val : Int → Int) (hS : S base)
    (turn : ∀ k t I oI C oC D m₂ ys h tk (E' : Value → Shared → Prop), a ≤ k → k < a + (n : Int) → NsObj oC m₂ → m₂ x = some (.int k t) → Fr h₀ L h m → News h₀ L h ((I, oI) :: (C, oC) :: (D, lst ys) :: base) → Off3 I C D base → I ≠ C → I ≠ D → C ≠ D →
      wpAny (model prog w) A (eval elt (compEnvC scope cl C env)) (IntEnd h₀ L m { s with heap := h, toks := tk } I oI C oC D (lst ys) base (val k)) E' { s with heap := h, toks := tk })
    (fin : ∀ ys, IntsAre ys ((rangeKs a n).map val) → Fin ys base) :
    CompRest prog w A h₀ L m env elt x scope cl s S (fun i v => ∃ t, v = .int (a + (i : Int)) t) Fin n 0 [] base := by
  have key : ∀ (j i : Nat) (ys : List Value), i + j = n → IntsAre ys (((rangeKs a n).take i).map val) → CompRest prog w A h₀ L m env elt x scope cl s S (fun i v => ∃ t, v = .int (a + (i : Int)) t) Fin j i ys base := by
    intro j
    induction j with
    | zero =>
      intro i ys hi hy
      have e : i = (rangeKs a n).length := by rw [rangeKs_length]; (first | lia | omega)
      subst e
      rw [List.take_length] at hy
      exact CompRest.zero (fin ys hy)
    | succ j ih =>
      intro i ys hi hy
      refine CompRest.succ ?_
      intro v I oI C oC D m₂ h tk E' hv hC hx F N off ne
      obtain ⟨t, rfl⟩ := hv
      have hk : (rangeKs a n)[i]? = some (a + (i : Int)) := by simp [rangeKs, show i < n by (first | lia | omega)]
      refine wpAny_mono (turn _ t I oI C oC D m₂ ys h tk E' (by (first | lia | omega)) (by (first | lia | omega)) hC hx F N off ne.1 ne.2.1 ne.2.2) (fun yv s₃ hr => ?_) fun _ _ e => e
      obtain ⟨h', tk', t', e, F', N', rfl⟩ := hr
      refine ⟨h', tk', base, e, F', N', off, hS, ih (i + 1) _ (by (first | lia | omega)) ?_⟩
      rw [take_snoc hk, List.map_append]
      exact IntsAre.append hy (.cons _ t' .nil)
  exact key n 0 [] (by (first | lia | omega)) .nil
theorem octs_bytes {a b : Int} (ha : 0 ≤ a) : byteArr ((rangeKs a (b - a).toNat).map fun k => k + 1) = octs a b := by
  unfold byteArr octs octL rangeKs
  simp only [List.map_map]
  congr 1
  refine List.map_congr_left fun i _ => ?_
  show (a + (i : Int) + 1).toNat.toUInt8 = UInt8.ofNat (a.toNat + i + 1)
  rw [show (a + (i : Int) + 1).toNat = a.toNat + i + 1 by (first | lia | omega)]
end
theorem say_24d_1 : True := by
  k_with "eval ListComp" => ((k_here; refine stop_ ?_))
  trivial
theorem say_24d_2 : True := by
  k_with "exec Assign cons ListComp" => ((k_here; refine stop_ ?_))
  trivial

theorem anew_25 : True := by w_top off; trivial
theorem wpAny_split {M : Model} {A : Around} {E : Value → Shared → Prop} {s : Shared} {env : Env} {Q : Flow → Shared → Prop} {l2 : List Stmt} (l1 : List Stmt) (h : wpAny M A (execs l1 env) (fun f s' => match f with | .next => Stop (wpAny M A (execs l2 env) Q E s') | f => Q f s') E s) : wpAny M A (execs (l1 ++ l2) env) Q E s := fun Γ p hΓ => by
  refine wp_split l1 p s (Sem.wp_mono M Γ _ (fun f p' s' h' => ?_) (fun _ _ _ h' => h') p s (h Γ p hΓ))
  cases f with
  | next => exact h' Γ p' hΓ
  | _ => exact h'
section
variable {w : World} {mean : ExcName → Option Value} {mg mb : Str → Option Value} {R : Led}
end
theorem say_25_1 : True := by
  k_with "mine enterC" => (((case kA => exact rfl); (case kF => exact rfl); (case kK => first | assumption | exact rfl); (case k1 => k_asm); (case k2 => k_asm); (case k3 => k_asm); (case k4 => k_asm); (case k5 => k_asm); (case k6 => k_is); (case k7 => k_is); (case k8 => walk_at "mine room"); (case k9 => exact BindsTo.of_eq rfl); (case kB => exact rfl); (case kD => decide +kernel); (case c2 => exact rfl); (case c3 => exact rfl); (case c4 => exact rfl); k_whole))
  trivial
theorem say_25_2 : True := by
  k_with "compareOp NotIn int ref" => ((k_here; kda_here; k_dflt (refine' kdg_notin (knd := PySem.intKind _ _) ?N ?hp ?hd ?lo (intKind_is _ _ _ _) _ ?hb ?_; (case N => k_asm); (case hp => k_mem); (case hd => k_asm); (case lo => k_asm); (case hb => assumption))))
  trivial
theorem say_25_3 : True := by
  k_with "setItem ref int" => ((k_here; kda_here; k_dflt (refine' kda_set (knd := PySem.intKind _ _) ?F ?N ?U ?d (intKind_is _ _ _ _) ?z ?_; (case F => k_asm); (case N => k_asm); (case U => k_updF); (case d => k_asm); (case z => size_fits)); intro hZ' oZ' FZ' NZ' hdZ'; (try dsimp only at NZ')))
  trivial
theorem say_25_4 : True := by
  k_with "subscriptTail" => ((k_here; (with_reducible show wpAny _ _ (subscriptTail (PySem.Expr.Name _ _) _ (Value.ref _) (Value.int _ _)) _ _ _); kda_here; k_dflt (refine' kda_item (knd := PySem.intKind _ _) ?N ?hp ?hd (intKind_is _ _ _ _) ?hl ?_; (case N => k_asm); (case hp => k_mem); (case hd => k_asm); (case hl => assumption))))
  trivial
theorem say_25_5 : True := by
  k_with "getItem ref int" => ((k_here; kda_here; k_dflt (refine' kdt_getItem (knd := PySem.intKind _ _) ?N ?hp ?hd (intKind_is _ _ _ _) ?hl ?_; (case N => k_asm); (case hp => k_mem); (case hd => k_asm); (case hl => assumption))))
  trivial
theorem say_25_6 : True := by
  k_with "compareOp In int ref" => ((k_here; kda_here; k_dflt (refine' kda_in (knd := PySem.intKind _ _) ?N ?hp ?hd ?lo (intKind_is _ _ _ _) _ ?hb ?_; (case N => k_asm); (case hp => k_mem); (case hd => k_asm); (case lo => k_asm); (case hb => assumption))))
  trivial
theorem say_25_7 : True := by
  k_with "exec For Name Call cons nil" => ((k_here; refine stop_ ?_))
  trivial
section
variable {w : World} {mean : ExcName → Option Value} {mg mb : Str → Option Value} {R : Led}
noncomputable def bookFin (hf : Bool) (k v n : Int) (fin : Option Int) : Option Int := if hf = true ∧ k = v ∧ fin = none ∧ n ≤ v then some v else fin
noncomputable abbrev bookL (c1 c2 : Addr) (oK oB : Obj) (bk kd : Addr) (ob ok : Obj) (R : Led) : Led := (c1, oK) :: (c2, oB) :: (bk, ob) :: (kd, ok) :: R
/-- where '_law_arrived' stands behind its third statement -/
inductive BkJ1 (w : World) (c1 c2 : Addr) (oK oB : Obj) (bk kd : Addr) (ok : Obj) (R : Led) (n rd edge spot k : Int) (fin1 : Option Int) (uv : Value) (over : Bool) (t1 t2 t3 ts : Tok) (bg : Bool) (m : Str → Option Value) (nx : Led) : Prop
  | mk : ∀ ob' fv' tk, nx = bookL c1 c2 oK oB bk kd ob' ok R →
    ob'.IsDictOf (PySem.strKind PRG w) (bookKV n rd edge kd fv' uv over t1 t2 t3) →
    OptV fv' fin1 →
    (∀ p ∈ [(("kept" : Str), Value.bytes (octs spot k) tk), ("begins", .bool bg), ("spot", .int spot ts)], m p.1 = some p.2) → BkJ1 w c1 c2 oK oB bk kd ok R n rd edge spot k fin1 uv over t1 t2 t3 ts bg m nx
/-- the loop that fills the known octets, ahead of turn i -/
inductive BkJ2 (w : World) (c1 c2 : Addr) (oK oB : Obj) (bk kd : Addr) (ob1 : Obj) (R : Led) (kvs : List (Int × Value)) (n spot k : Int) (ts tk : Tok) (bg : Bool) (i : Nat) (m : Str → Option Value) (nx : Led) : Prop
  | mk : ∀ ok' kvs', nx = bookL c1 c2 oK oB bk kd ob1 ok' R →
    ok'.IsDictOf (PySem.intKind PRG w) kvs' →
    KnownIs kvs' →
    (∀ x, Keys kvs' x ↔ Keys kvs x ∨ (spot ≤ x ∧ x < spot + i ∧ n ≤ x)) →
    kvs'.length ≤ kvs.length + i →
    (∀ p ∈ [(("kept" : Str), Value.bytes (octs spot k) tk), ("begins", .bool bg), ("spot", .int spot ts)], m p.1 = some p.2) → BkJ2 w c1 c2 oK oB bk kd ob1 R kvs n spot k ts tk bg i m nx
/-- behind the fifth statement: what lies behind the FIN is let go -/
inductive BkJ3 (w : World) (c1 c2 : Addr) (oB : Obj) (bk : Addr) (R : Led) (n rd edge : Int) (fin1 : Option Int) (uv : Value) (over : Bool) (t1 t2 t3 : Tok) (bg : Bool) (P : Int → Prop) (len : Nat) (m : Str → Option Value) (nx : Led) : Prop
  | mk : ∀ oK ob' kd' ok' kvs' fv', nx = bookL c1 c2 oK oB bk kd' ob' ok' R →
    ob'.IsDictOf (PySem.strKind PRG w) (bookKV n rd edge kd' fv' uv over t1 t2 t3) →
    OptV fv' fin1 →
    ok'.IsDictOf (PySem.intKind PRG w) kvs' →
    KnownIs kvs' →
    (∀ x, Keys kvs' x ↔ P x ∧ ∀ f, fin1 = some f → x < f) →
    kvs'.length ≤ len →
    (kd' == sysModules) = false →
    kd' ≠ c1 →
    kd' ≠ c2 →
    bk ≠ kd' →
    (∀ p ∈ R, p.1 ≠ kd') →
    (∀ p ∈ [(("begins" : Str), Value.bool bg)], m p.1 = some p.2) → BkJ3 w c1 c2 oB bk R n rd edge fin1 uv over t1 t2 t3 bg P len m nx
inductive BkW (w : World) (c1 c2 : Addr) (oK oB : Obj) (bk kd : Addr) (ok : Obj) (R : Led) (kvs : List (Int × Value)) (n rd edge : Int) (fv uv : Value) (over : Bool) (t2 t3 : Tok) (bg : Bool) (k : Nat) (m : Str → Option Value) (nx : Led) : Prop
  | mk : ∀ ob' a q tf t1, nx = bookL c1 c2 oK oB bk kd ob' ok R →
    ob'.IsDictOf (PySem.strKind PRG w) (bookKV a rd edge kd fv uv over t1 t2 t3) →
    a = n + q →
    0 ≤ q →
    a ≤ 64 →
    (∀ x, n ≤ x → x < a → Keys kvs x) →
    (over = true → a = n) →
    k = (64 - a).toNat →
    (∀ p ∈ [(("fresh" : Str), Value.int q tf), ("begins", .bool bg)], m p.1 = some p.2) → BkW w c1 c2 oK oB bk kd ok R kvs n rd edge fv uv over t2 t3 bg k m nx
inductive BkX (w : World) (c1 c2 : Addr) (oK oB : Obj) (bk kd : Addr) (ok : Obj) (R : Led) (kvs : List (Int × Value)) (n rd edge : Int) (fv uv : Value) (over : Bool) (t2 t3 : Tok) (bg : Bool) (m : Str → Option Value) (nx : Led) : Prop
  | mk : ∀ ob' a q tf t1, nx = bookL c1 c2 oK oB bk kd ob' ok R →
    ob'.IsDictOf (PySem.strKind PRG w) (bookKV a rd edge kd fv uv over t1 t2 t3) →
    a = n + q →
    0 ≤ q →
    a ≤ 64 →
    (∀ x, n ≤ x → x < a → Keys kvs x) →
    (over = true → a = n) →
    (over = false → ¬ Keys kvs a) →
    (∀ p ∈ [(("fresh" : Str), Value.int q tf), ("begins", .bool bg)], m p.1 = some p.2) → BkX w c1 c2 oK oB bk kd ok R kvs n rd edge fv uv over t2 t3 bg m nx
/-- what '_law_arrived' gives back and leaves -/
inductive ArrPost (w : World) (bk : Addr) (R : Led) (n rd edge : Int) (uv : Value) (over : Bool) (t2 t3 : Tok) (spot k : Int) (fin1 : Option Int) (kvs : List (Int × Value)) (y : Value) (n' : Led) : Prop
  | mk : ∀ T t ob' kd' ok' kvs' fv' a q t1', n' = (T, tup2 (.int q t) (.bool (decide (spot ≤ n + if over = true then 1 else 0)))) :: (bk, ob') :: (kd', ok') :: R →
    y = .ref T →
    ob'.IsDictOf (PySem.strKind PRG w) (bookKV a rd edge kd' fv' uv (over || decide (fin1 = some a)) t1' t2 t3) →
    OptV fv' fin1 →
    ok'.IsDictOf (PySem.intKind PRG w) kvs' →
    KnownIs kvs' →
    (∀ x, Keys kvs' x ↔ (Keys kvs x ∨ (spot ≤ x ∧ x < k ∧ n ≤ x)) ∧ ∀ f, fin1 = some f → x < f) →
    kvs'.length ≤ kvs.length + 40 →
    (kd' == sysModules) = false →
    bk ≠ kd' →
    (∀ p ∈ R, p.1 ≠ kd') →
    (T ≠ bk ∧ T ≠ kd' ∧ ∀ p ∈ R, p.1 ≠ T) →
    a = n + q →
    0 ≤ q →
    a ≤ 64 →
    (∀ x, n ≤ x → x < a → Keys kvs' x) →
    (over = true → a = n) →
    (over = false → ¬ Keys kvs' a) → ArrPost w bk R n rd edge uv over t2 t3 spot k fin1 kvs y n'
theorem kept_eq {s v e : Int} (h : s ≤ v) : min v (s + if e - s > 0 then e - s else 0) = max s (min v e) := by
  by_cases g : e - s > 0
  · rw [if_pos g, Int.add_comm, Int.sub_add_cancel, Int.max_eq_right (Int.le_min.mpr ⟨h, Int.le_of_lt (Int.lt_of_sub_pos g)⟩)]
  · rw [if_neg g, Int.add_zero, Int.min_eq_right h, Int.max_eq_left (Int.le_trans (Int.min_le_right _ _) (Int.le_of_sub_nonpos (Int.not_lt.mp g)))]
theorem rg_up {n s x : Int} {i : Nat} (h : s ≤ x ∧ x < s + (i : Int) ∧ n ≤ x) : s ≤ x ∧ x < s + ((i + 1 : Nat) : Int) ∧ n ≤ x :=
  ⟨h.1, Int.lt_trans h.2.1 (Int.add_lt_add_left (Int.ofNat_lt.mpr (Nat.lt_succ_self i)) s), h.2.2⟩
theorem rg_dn {n s x : Int} {i : Nat} (h : s ≤ x ∧ x < s + ((i + 1 : Nat) : Int) ∧ n ≤ x) : (s ≤ x ∧ x < s + (i : Int) ∧ n ≤ x) ∨ x = s + (0 + (i : Int)) := by
  have e : s + ((i + 1 : Nat) : Int) = s + i + 1 := (Int.add_assoc s i 1).symm
  rw [Int.zero_add]
  exact (Int.lt_or_eq_of_le (Int.le_of_lt_add_one (e ▸ h.2.1))).imp (fun q => ⟨h.1, q, h.2.2⟩) id
theorem rg_no {n s x : Int} {i : Nat} (hn : ¬ n ≤ s + (0 + (i : Int))) : (s ≤ x ∧ x < s + (i : Int) ∧ n ≤ x) ↔ s ≤ x ∧ x < s + ((i + 1 : Nat) : Int) ∧ n ≤ x :=
  ⟨rg_up, fun h => (rg_dn h).resolve_right fun e => hn (e ▸ h.2.2)⟩
theorem rg_yes {n s x : Int} {i : Nat} (hn : n ≤ s + (0 + (i : Int))) : (s ≤ x ∧ x < s + (i : Int) ∧ n ≤ x) ∨ x = s + (0 + (i : Int)) ↔ s ≤ x ∧ x < s + ((i + 1 : Nat) : Int) ∧ n ≤ x :=
  ⟨fun h => h.elim rg_up fun e => by
    rw [e]
    refine ⟨?_, ?_, hn⟩
    · rw [Int.zero_add]; exact Int.le_add_of_nonneg_right (Int.natCast_nonneg i)
    · rw [Int.zero_add]; exact Int.add_lt_add_left (Int.ofNat_lt.mpr (Nat.lt_succ_self i)) s, rg_dn⟩
theorem meas_lt {a : Int} (h : a < 64) : (64 - (a + 1)).toNat < (64 - a).toNat := by lia
theorem arrived_spec {bk kd : Addr} {ob ok : Obj} {kvs : List (Int × Value)} {n rd edge spot v : Int} {fv uv : Value} {fin : Option Int} {over hf : Bool} {t1 t2 t3 ts to : Tok}
    (hob : ob.IsDictOf (PySem.strKind PRG w) (bookKV n rd edge kd fv uv over t1 t2 t3)) (hok : ok.IsDictOf (PySem.intKind PRG w) kvs) (hkn : KnownIs kvs) (hfv : OptV fv fin) (lo : (kd == sysModules) = false) (hne : bk ≠ kd)
    (r1 : ∀ p ∈ R, p.1 ≠ bk) (r2 : ∀ p ∈ R, p.1 ≠ kd) (hn : 0 ≤ n ∧ n ≤ 40) (he : 0 ≤ edge ∧ edge ≤ 40) (hs : 0 ≤ spot ∧ spot ≤ v ∧ v ≤ 40) (hkb : ∀ x, Keys kvs x → 0 ≤ x ∧ x < 64) (hkl : kvs.length ≤ 1000) :
    Spec w mean mg mb 305 20 [.ref bk, .int spot ts, .bytes (octs spot v) to, .bool hf] ((bk, ob) :: (kd, ok) :: R) (ArrPost w bk R n rd edge uv over t2 t3 spot (max spot (min v edge)) (bookFin hf (max spot (min v edge)) v n fin) kvs) := by
  unfold Spec; k_fill; intro dp un gd cn cs a' ccd cl outer A₀ base h₀ L m s Q E B F X N T hk hdp hun hret
  refine wpAny_call ?_
  k_dflt (refine' code_defC (binds := [("book", .ref bk), ("spot", .int spot ts), ("octets", .bytes (octs spot v) to), ("has_fin", .bool hf)]) ?k1 ?k2 ?k3 ?k4 ?k5 ?kA ?kF ?kK ?k6 ?k7 ?k8 ?k9 ?kB ?kD ?_ ?c2 ?c3 ?c4; walk_at "mine enterC")
  intro g' L' h' tk' cells' FG' F' N' Y' B' X' T' l1
  k_lt l1
  obtain ⟨oK, oB, rfl, d1', d2'⟩ := CellsAre.two Y'
  simp only [List.cons_append, List.nil_append] at N'
  have F1 : Fr g' L' h' (chain [("has_fin", .bool hf), ("octets", .bytes (octs spot v) to), ("spot", .int spot ts)] fun _ => none) := F'
  have dK : oK.data = .cell none := d1'
  have dB : oB.data = .cell (some (.ref bk)) := d2'
  clear F' d1' d2' Y'
  have c1 : ∀ p ∈ R, p.1 ≠ L' + 1 + 1 := fun p hp => Nat.ne_of_lt (Nat.lt_succ_of_lt (Nat.lt_succ_of_lt (ktn_ltOf l1.2.2 p hp)))
  have c2 : ∀ p ∈ R, p.1 ≠ L' + 1 := fun p hp => Nat.ne_of_lt (Nat.lt_succ_of_lt (ktn_ltOf l1.2.2 p hp))
  have c3 : bk ≠ L' + 1 + 1 := Nat.ne_of_lt (Nat.lt_succ_of_lt (Nat.lt_succ_of_lt l1.1))
  have c4 : kd ≠ L' + 1 + 1 := Nat.ne_of_lt (Nat.lt_succ_of_lt (Nat.lt_succ_of_lt l1.2.1))
  have c5 : bk ≠ L' + 1 := Nat.ne_of_lt (Nat.lt_succ_of_lt l1.1)
  have c6 : kd ≠ L' + 1 := Nat.ne_of_lt (Nat.lt_succ_of_lt l1.2.1)
  dsimp only
  (try k_fold)
  refine wpAny_split [_, _] ?_
  k_steps
  show wpAny _ _ _ _ _ _
  rename Fr _ _ _ _ => F2
  rename News _ _ _ _ => N2
  rename (_ : Array UInt8) = octs _ _ => hx9
  replace hx9 := hx9.trans (show octs spot (min v (spot + if edge - spot > 0 then edge - spot else 0)) = octs spot (max spot (min v edge)) from congrArg (octs spot) (kept_eq hs.2.1))
  subst hx9
  have hk9 : spot ≤ max spot (min v edge) ∧ max spot (min v edge) ≤ v := ⟨Int.le_max_left _ _, Int.max_le.mpr ⟨hs.2.1, Int.min_le_left _ _⟩⟩
  generalize max spot (min v edge) = k at *
  refine wpAny_cut F2 (BkJ1 w (L' + 1 + 1) (L' + 1) oK oB bk kd ok R n rd edge spot k (bookFin hf k v n fin) uv over t1 t2 t3 ts (decide (spot ≤ n + if over = true then 1 else 0))) ?_ ?_
  · --BEGIN
    intro QC9 hQC9
    cases hf with
    | false =>
      k_steps
      show CutEnd _ _ _ _ _ .next _
      have eF : bookFin false k v n fin = fin := if_neg fun h => nomatch h.1
      exact .next F2 N2 ⟨ob, fv, _, rfl, hob, (by rw [eF]; exact hfv), all2 rfl (all2 rfl (all2 rfl all0))⟩
    | true =>
      cases fin with
      | some f =>
        have hfv' := hfv
        obtain ⟨tf, rfl⟩ := hfv'
        have eF : bookFin true k v n (some f) = some f := if_neg fun h => nomatch h.2.2.1
        k_steps
        · rename Fr _ _ _ _ => F9
          rename News _ _ _ _ => N9
          show CutEnd _ _ _ _ _ .next _
          exact .next F9 N9 ⟨ob, _, _, rfl, hob, (by rw [eF]; exact hfv), all2 rfl (all2 rfl (all2 rfl all0))⟩
        · rename Fr _ _ _ _ => F9
          rename News _ _ _ _ => N9
          show CutEnd _ _ _ _ _ .next _
          exact .next F9 N9 ⟨ob, _, _, rfl, hob, (by rw [eF]; exact hfv), all2 rfl (all2 rfl (all2 rfl all0))⟩
      | none =>
        have hfv' := hfv
        obtain rfl : fv = .none := hfv'
        k_steps
        · have eF : bookFin true k v n none = some v := if_pos ⟨rfl, by (first | lia | omega), rfl, by (first | lia | omega)⟩
          rename Fr _ _ _ _ => F9
          rename News _ _ _ _ => N9
          rename Obj.IsDictOf _ _ _ => hd9
          show CutEnd _ _ _ _ _ .next _
          exact .next F9 N9 ⟨_, _, _, rfl, hd9, (by rw [eF]; exact ⟨_, int_eq (by (first | lia | omega))⟩), all2 rfl (all2 rfl (all2 rfl all0))⟩
        · have eF : bookFin true k v n none = none := if_neg fun h => by have := h.2.2.2; (first | lia | omega)
          rename Fr _ _ _ _ => F9
          rename News _ _ _ _ => N9
          show CutEnd _ _ _ _ _ .next _
          exact .next F9 N9 ⟨ob, _, _, rfl, hob, (by rw [eF]; exact hfv), all2 rfl (all2 rfl (all2 rfl all0))⟩
        · have eF : bookFin true k v n none = none := if_neg fun h => by have := h.2.1; (first | lia | omega)
          rename Fr _ _ _ _ => F9
          rename News _ _ _ _ => N9
          show CutEnd _ _ _ _ _ .next _
          exact .next F9 N9 ⟨ob, _, _, rfl, hob, (by rw [eF]; exact hfv), all2 rfl (all2 rfl (all2 rfl all0))⟩
    --DONE
  clear F2 N2
  generalize bookFin hf k v n fin = fin1 at *
  intro h2 tk2 m2 nx2 F2 N2 hJ
  obtain ⟨ob1, fv1, tk, rfl, hob1, hfv1, hm⟩ := hJ
  have F3 := Fr_chain _ F2 hm
  clear F2 hm hob hfv
  have ek : spot + ((k - spot).toNat : Int) = k := by rw [Int.toNat_of_nonneg (Int.sub_nonneg_of_le hk9.1), Int.add_comm, Int.sub_add_cancel]
  have ek2 : (k - spot).toNat ≤ 40 := Int.toNat_le.mpr (Int.le_trans (Int.sub_le_self k hs.1) (Int.le_trans hk9.2 hs.2.2))
  refine wpAny_cut F3 (BkJ2 w (L' + 1 + 1) (L' + 1) oK oB bk kd ob1 R kvs n spot k ts tk (decide (spot ≤ n + if over = true then 1 else 0)) (k - spot).toNat) ?_ ?_
  · --BEGIN
    intro QC9 hQC9
    refine' For_invVF F3 ?hx ?hp ?_ ?hs ?hE
    case hx => exact rfl
    case hp => exact rfl
    case hs => intro _; rfl
    case hE => first | passes_own | with_unfolding_all passes_own
    with_reducible show wpAny _ _ _ _ _ _
    (try k_fold)
    k_steps
    show wpAny _ _ _ _ _ _
    rename IsRange _ _ _ _ _ _ _ _ => hr9
    rename Fr _ _ _ _ => F9
    rename News _ _ _ _ => N9
    refine my_range (fun i => BkJ2 w (L' + 1 + 1) (L' + 1) oK oB bk kd ob1 R kvs n spot k ts tk (decide (spot ≤ n + if over = true then 1 else 0)) i) rfl hr9 (by (first | lia | omega)) (show (k - spot - 0).toNat = (k - spot).toNat by rw [Int.sub_zero]) F9 N9 ?h0 ?turn ?done
    case h0 => exact ⟨ok, kvs, rfl, hok, hkn, fun x => ⟨.inl, fun h => h.elim id fun h => by (first | lia | omega)⟩, Nat.le_refl _, all2 rfl (all2 rfl (all2 rfl all0))⟩
    case done =>
      rintro m₁ nx h tk9 hJ F8 N8
      exact hQC9 _ _ (.next F8 N8 hJ)
    case turn =>
      clear F9 N9 hr9
      (try clear F3)
      (try clear N2)
      rintro i t9 m₁ nx h tk9 own hi how ⟨ok', kvs', rfl, hok', hkn', hks, hkl', hm⟩ F8 N8 QZ9 hQZ9
      have hi4 : i ≤ 40 := Nat.le_of_lt (Nat.lt_of_lt_of_le hi ek2)
      have hi5 : 0 ≤ spot ∧ 0 ≤ 0 + (i : Int) ∧ spot + (0 + (i : Int)) < k ∧ k ≤ 200 := by
        rw [Int.zero_add]
        exact ⟨hs.1, Int.natCast_nonneg i, Int.add_lt_of_lt_sub_left (Int.lt_toNat.mp hi), Int.le_trans hk9.2 (Int.le_trans hs.2.2 (by decide))⟩
      clear hi
      have F3 := Fr_chain [(("place_k" : Str), Value.int (0 + (i : Int)) t9), ("kept", .bytes (octs spot k) tk), ("begins", .bool (decide (spot ≤ n + if over = true then 1 else 0))), ("spot", .int spot ts)] F8 (all2 rfl (all2 (hm _ (.head _)) (all2 (hm _ (.tail _ (.head _))) (all2 (hm _ (.tail _ (.tail _ (.head _)))) all0))))
      have o1 : ∀ p ∈ R ++ own, p.1 ≠ bk := List.forall_mem_append.mpr ⟨r1, fun p hp => (how p hp _ (.tail _ (.tail _ (.head _)))).symm⟩
      have o2 : ∀ p ∈ R ++ own, p.1 ≠ kd := List.forall_mem_append.mpr ⟨r2, fun p hp => (how p hp _ (.tail _ (.tail _ (.tail _ (.head _))))).symm⟩
      replace N8 : News g' L' h ((L' + 1 + 1, oK) :: (L' + 1, oB) :: (bk, ob1) :: (kd, ok') :: (R ++ own)) := N8
      clear F8
      by_cases hK : Keys kvs' (spot + (0 + (i : Int)))
      · have hb := keys_at.mpr hK
        with_reducible show wpAny _ _ _ _ _ _
        (try k_fold)
        k_steps
        · rename Fr _ _ _ _ => F9
          rename News _ _ _ _ => N9
          refine range_end (nx := bookL (L' + 1 + 1) (L' + 1) oK oB bk kd ob1 ok' R) F9 N9 ⟨ok', kvs', rfl, hok', hkn', fun x => ?_, by (first | lia | omega), all2 rfl (all2 rfl (all2 rfl all0))⟩ how (fun p hp => hp)
          refine ⟨fun h => ?_, fun h => ?_⟩
          · rcases (hks x).mp h with h | h
            · exact .inl h
            · exact .inr (rg_up h)
          · rcases h with h | h
            · exact (hks x).mpr (.inl h)
            · by_cases e : x = spot + (0 + (i : Int))
              · rw [e]; exact hK
              · exact (hks x).mpr (.inr ((rg_dn h).resolve_right e))
        · rename Fr _ _ _ _ => F9
          rename News _ _ _ _ => N9
          refine range_end (nx := bookL (L' + 1 + 1) (L' + 1) oK oB bk kd ob1 ok' R) F9 N9 ⟨ok', kvs', rfl, hok', hkn', fun x => ?_, by (first | lia | omega), all2 rfl (all2 rfl (all2 rfl all0))⟩ how (fun p hp => hp)
          exact (hks x).trans (or_congr_right (rg_no (by assumption)))
      · have hb : (valueAt kvs' (spot + (0 + (i : Int)))).isSome = false := by rw [Bool.eq_false_iff]; exact fun h => hK (keys_at.mp h)
        with_reducible show wpAny _ _ _ _ _ _
        (try k_fold)
        k_steps
        · rename Fr _ _ _ _ => F9
          rename News _ _ _ _ => N9
          rename Obj.IsDictOf _ _ _ => hd9
          rw [stored_new hK] at hd9
          refine range_end (nx := bookL (L' + 1 + 1) (L' + 1) oK oB bk kd ob1 _ R) F9 N9 ⟨_, _, rfl, hd9, ?_, fun x => ?_, ?_, all2 rfl (all2 rfl (all2 rfl all0))⟩ (fun p hp => all2 (how p hp _ (.head _)) (all2 (how p hp _ (.tail _ (.head _))) (all2 (how p hp _ (.tail _ (.tail _ (.head _)))) (all2 (how p hp (kd, ok') (.tail _ (.tail _ (.tail _ (.head _))))) fun q hq => how p hp q (.tail _ (.tail _ (.tail _ (.tail _ hq)))))))) (fun p hp => hp)
          · intro p hp
            rcases List.mem_append.mp hp with hp | hp
            · exact hkn' p hp
            · rw [List.mem_singleton.mp hp]; exact ⟨_, rfl⟩
          · rw [keys_snoc, hks x, or_assoc]
            exact or_congr_right (rg_yes (by assumption))
          · rw [List.length_append, List.length_singleton]; (first | lia | omega)
        · rename Fr _ _ _ _ => F9
          rename News _ _ _ _ => N9
          refine range_end (nx := bookL (L' + 1 + 1) (L' + 1) oK oB bk kd ob1 ok' R) F9 N9 ⟨ok', kvs', rfl, hok', hkn', fun x => ?_, by (first | lia | omega), all2 rfl (all2 rfl (all2 rfl all0))⟩ how (fun p hp => hp)
          exact (hks x).trans (or_congr_right (rg_no (by assumption)))
    --DONE
  intro h3 tk3 m3 nx3 F4 N4 hJ
  (try clear F3)
  (try clear N2)
  obtain ⟨ok1, kvs1, rfl, hok1, hkn1, hks1, hkl1, hm⟩ := hJ
  replace N4 : News g' L' h3 ((L' + 1 + 1, oK) :: (L' + 1, oB) :: (bk, ob1) :: (kd, ok1) :: R) := N4
  have F5 := Fr_chain _ F4 hm
  clear F4 hm hok hkn
  rw [ek] at hks1
  replace hkl1 := Nat.le_trans hkl1 (Nat.add_le_add_left ek2 _)
  clear ek ek2
  have hkl2 : kvs1.length ≤ 1100 := Nat.le_trans hkl1 (Nat.le_trans (Nat.add_le_add_right hkl 40) (by decide))
  have hkb1 : ∀ x, Keys kvs1 x → 0 ≤ x ∧ x < 64 := fun x hx => by
    rcases (hks1 x).mp hx with h | h
    · exact hkb x h
    · exact ⟨Int.le_trans hs.1 h.1, Int.lt_of_lt_of_le h.2.1 (Int.le_trans hk9.2 (Int.le_trans hs.2.2 (by decide)))⟩
  refine wpAny_cut F5 (BkJ3 w (L' + 1 + 1) (L' + 1) oB bk R n rd edge fin1 uv over t1 t2 t3 (decide (spot ≤ n + if over = true then 1 else 0)) (fun x => Keys kvs x ∨ (spot ≤ x ∧ x < k ∧ n ≤ x)) (kvs.length + 40)) ?_ ?_
  · --BEGIN
    intro QC9 hQC9
    cases fin1 with
    | none =>
      have hfv' := hfv1
      obtain rfl : fv1 = .none := hfv'
      with_reducible show wpAny _ _ _ _ _ _
      (try k_fold)
      k_steps
      rename Fr _ _ _ _ => F9
      rename News _ _ _ _ => N9
      show CutEnd _ _ _ _ _ .next _
      exact .next F9 N9 ⟨oK, ob1, kd, ok1, kvs1, .none, rfl, hob1, rfl, hok1, hkn1, fun x => (hks1 x).trans ⟨fun h => ⟨h, fun f e => nomatch e⟩, fun h => h.1⟩, hkl1, lo, c4, c6, hne, r2, all2 rfl all0⟩
    | some f =>
      have hfv' := hfv1
      obtain ⟨tf, rfl⟩ := hfv'
      with_reducible show wpAny _ _ _ _ _ _
      (try k_fold)
      k_steps
      show wpAny _ _ _ _ _ _
      rename Fr _ _ _ _ => F9
      k_dflt (refine ListComp_D F9 (by with_unfolding_all rfl) (by decide) (by rfl) (by decide) (by rfl) ?_)
      k_steps
      rename Fr _ _ _ _ => F9
      rename News _ _ _ _ => N9
      rename _ = Data.cell (some _) => dK2
      rename Obj => oK2
      replace dK2 : oK2.data = .cell (some (.ref kd)) := dK2
      obtain ⟨ep, hK⟩ := KdkAt.of hok1
      have hnd := dict_nodup hok1
      refine ⟨kd, ok1, ep, kvs1, (L' + 1 + 1, oK2) :: (L' + 1, oB) :: (bk, ob1) :: (kd, ok1) :: R, rfl, rfl, F9, N9, .tail _ (.tail _ (.tail _ (.head _))), hK, lo, by rw [sizeLine_eq]; (first | lia | omega), fun g9 => comp_rest _ f (fun tl => .tail _ (.tail _ (.tail _ (.head _)))) ?_ ?_⟩
      · clear F9 N9
        intro k9 t9 y9 I oI C oC D m₂ ys tl h tk9 E' hky hC hx F8 N8 off n1 n2 n3
        have hv9 := valueAt_mem hnd hky
        replace N8 : News g' L' h ((I, oI) :: (C, oC) :: (D, LCg.lst ys) :: (L' + 1 + 1, oK2) :: (L' + 1, oB) :: (bk, ob1) :: (kd, ok1) :: (R ++ tl)) := N8
        with_reducible show wpAny _ _ _ _ _ _
        (try k_fold)
        k_steps
        · rename Fr _ _ _ _ => F7
          rename News _ _ _ _ => N7
          rename I < _ ∧ C < _ ∧ D < _ ∧ _ => l7
          exact ⟨_, _, _, _, rfl, F7, N7, ⟨Nat.ne_of_gt l7.1, Nat.ne_of_gt l7.2.1, Nat.ne_of_gt l7.2.2.1⟩, rfl, by assumption⟩
        · rename Fr _ _ _ _ => F7
          rename News _ _ _ _ => N7
          exact ⟨_, _, rfl, F7, N7, by assumption⟩
      · clear F9 N9
        rintro ys tl hys
        intro D h tk9 F8 N8 off
        with_reducible show wpAny _ _ _ _ _ _
        (try k_fold)
        k_steps
        k_dflt (refine' dict_of_pairs (m := chain [("kept", .bytes (octs spot k) _), ("begins", .bool (decide (spot ≤ n + if over = true then 1 else 0))), ("spot", .int spot ts)] m3) rfl (Top.nolimit T') F8 N8 (.head _) hys.length ?hnd ?hsz ?hp ?_)
        case hnd => exact List.Nodup.sublist (List.Sublist.map _ List.filter_sublist) hnd
        case hsz => exact Nat.le_trans (List.length_filter_le ..) (Nat.le_trans hkl2 (by decide))
        case hp =>
          intro j p hj
          obtain ⟨T9, t9, a9, b9⟩ := hys.get j p hj
          exact ⟨T9, t9, a9, .tail _ b9⟩
        intro D2 h' o2 tk2 F' N' lo2 hd2 l2
        clear F8 N8
        replace N' : News g' L' h' ((D2, o2) :: (L' + 1 + 1, oK2) :: (L' + 1, oB) :: (bk, ob1) :: (kd, ok1) :: R) := fun p hp => N' p (by
          simp only [List.mem_cons, List.mem_append] at hp ⊢
          rcases hp with h | h | h | h | h | h <;> simp [h])
        replace l2 : ∀ p ∈ (L' + 1 + 1, oK2) :: (L' + 1, oB) :: (bk, ob1) :: (kd, ok1) :: R, p.1 < D2 := fun p hp => l2 p (by
          simp only [List.mem_cons, List.mem_append] at hp ⊢
          rcases hp with h | h | h | h | h <;> simp [h])
        (try k_lt l2)
        (try k_fold)
        k_steps
        rename Fr _ _ _ _ => F7
        rename News _ _ _ _ => N7
        rename Obj.IsDictOf (PySem.strKind _ _) _ _ => hd7
        show CutEnd _ _ _ _ _ .next _
        refine .next F7 (fun p hp => N7 p ?_) ⟨oK2, _, D2, o2, _, _, rfl, hd7, ⟨tf, rfl⟩, hd2, fun p hp => hkn1 p (List.mem_filter.mp hp).1, fun x => ?_, Nat.le_trans (List.length_filter_le ..) hkl1, lo2, Nat.ne_of_gt l2.1, Nat.ne_of_gt l2.2.1, Nat.ne_of_lt l2.2.2.1, allLt_ne l2.2.2.2.2, all2 rfl all0⟩
        · revert p; walk_at "mine in"
        · rw [keys_filter, hks1 x]
          exact ⟨fun h => ⟨h.1, fun f' e => by cases e; exact h.2⟩, fun h => ⟨h.1, h.2 f rfl⟩⟩
  --DONE
  intro h4 tk4 m4 nx4 F6 N6 hJ
  (try clear F5)
  (try clear N4)
  clear hok1 hkn1 hks1 hkl1 hkl2 hob1 hfv1
  obtain ⟨oK, ob1, kd, ok1, kvs1, fv1, rfl, hob1, hfv1, hok1, hkn1, hks1, hkl1, lo, c4, c6, hne, r2, hm⟩ := hJ
  have F7 := Fr_chain _ F6 hm
  replace N6 : News g' L' h4 ((L' + 1 + 1, oK) :: (L' + 1, oB) :: (bk, ob1) :: (kd, ok1) :: R) := N6
  clear F6 hm
  have hkb1 : ∀ x, Keys kvs1 x → 0 ≤ x ∧ x < 64 := fun x hx => by
    rcases ((hks1 x).mp hx).1 with h | h
    · exact hkb x h
    · exact ⟨Int.le_trans hs.1 h.1, Int.lt_of_lt_of_le h.2.1 (Int.le_trans hk9.2 (Int.le_trans hs.2.2 (by decide)))⟩
  refine wpAny_split [_] ?_
  (try k_fold)
  k_steps
  show wpAny _ _ _ _ _ _
  rename Fr _ _ _ _ => F8
  rename News _ _ _ _ => N8
  refine wpAny_cut F8 (BkX w (L' + 1 + 1) (L' + 1) oK oB bk kd ok1 R kvs1 n rd edge fv1 uv over t2 t3 (decide (spot ≤ n + if over = true then 1 else 0))) ?_ ?_
  · intro QC9 hQC9
    refine my_while (BkW w (L' + 1 + 1) (L' + 1) oK oB bk kd ok1 R kvs1 n rd edge fv1 uv over t2 t3 (decide (spot ≤ n + if over = true then 1 else 0))) (BkX w (L' + 1 + 1) (L' + 1) oK oB bk kd ok1 R kvs1 n rd edge fv1 uv over t2 t3 (decide (spot ≤ n + if over = true then 1 else 0))) F8 N8 ⟨ob1, n, 0, _, t1, rfl, hob1, by (first | lia | omega), Int.le_refl _, by (first | lia | omega), fun x h1 h2 => by (first | lia | omega), fun _ => rfl, rfl, all2 rfl (all2 rfl all0)⟩ ?turn ?out
    case out =>
      intro m₁ nx h tk9 hx F9 N9
      exact hQC9 _ _ (.next F9 N9 hx)
    case turn =>
      rintro k9 m₁ nx h tk9 ⟨ob', a, q, tf, t1', rfl, hob', ea, hq, ha, hkx, hov, rfl, hm⟩ F9 N9 QZ9 hQZ9
      have F3 := Fr_chain _ F9 hm
      (try clear F8)
      (try clear N8)
      (try clear F7)
      (try clear N6)
      clear F9 hm
      replace N9 : News g' L' h ((L' + 1 + 1, oK) :: (L' + 1, oB) :: (bk, ob') :: (kd, ok1) :: R) := N9
      by_cases hK : Keys kvs1 a
      · have hb := keys_at.mpr hK
        with_reducible show wpAny _ _ _ _ _ _
        (try k_fold)
        k_steps
        · rename over = true => ho9
          rename Fr _ _ _ _ => F9
          rename News _ _ _ _ => N9
          exact WhileOut.intro F9 N9 (fun p hp => hp) ⟨ob', a, q, tf, t1', rfl, hob', ea, hq, ha, hkx, hov, fun h => (by rw [ho9] at h; cases h), all2 rfl (all2 rfl all0)⟩
        · rename over = false => ho9
          rename Fr _ _ _ _ => F9
          rename News _ _ _ _ => N9
          rename Obj.IsDictOf _ _ _ => hd9
          have hb9 := hkb1 a hK
          show WhileEnd _ _ _ _ _ _ _ .next _
          refine WhileEnd.next (k := (64 - (a + 1)).toNat) F9 N9 (fun p hp => .tail _ hp) (meas_lt hb9.2) ⟨_, a + 1, q + 1, _, _, rfl, hd9, by (first | lia | omega), by (first | lia | omega), by (first | lia | omega), fun x h1 h2 => ?_, fun h => (by rw [ho9] at h; cases h), rfl, all2 rfl (all2 rfl all0)⟩
          by_cases e : x = a
          · rw [e]; exact hK
          · exact hkx x h1 (by (first | lia | omega))
      · have hb : (valueAt kvs1 a).isSome = false := by rw [Bool.eq_false_iff]; exact fun h => hK (keys_at.mp h)
        with_reducible show wpAny _ _ _ _ _ _
        (try k_fold)
        k_steps
        rename Fr _ _ _ _ => F9
        rename News _ _ _ _ => N9
        exact WhileOut.intro F9 N9 (fun p hp => hp) ⟨ob', a, q, tf, t1', rfl, hob', ea, hq, ha, hkx, hov, fun _ => hK, all2 rfl (all2 rfl all0)⟩
  --DONE
  intro h5 tk5 m5 nx5 F9 N9 hJ
  (try clear F8)
  (try clear N8)
  (try clear F7)
  (try clear N6)
  obtain ⟨ob2, a, q, tq, t1', rfl, hob2, ea, hq, ha, hkx, hov, hnk, hm⟩ := hJ
  have F3 := Fr_chain _ F9 hm
  replace N9 : News g' L' h5 ((L' + 1 + 1, oK) :: (L' + 1, oB) :: (bk, ob2) :: (kd, ok1) :: R) := N9
  clear F9 hm hob1
  cases fin1 with
  | none =>
    have hfv' := hfv1
    obtain rfl : fv1 = .none := hfv'
    cases over with
    | true =>
      with_reducible show wpAny _ _ _ _ _ _
      (try k_fold)
      k_steps
      rename Obj.IsDictOf (PySem.strKind _ _) _ _ => hd9
      rename News _ _ _ _ => N8
      rename _ < _ ∧ _ < _ ∧ bk < _ ∧ kd < _ ∧ AllLt _ R => l9
      refine hret _ ((_, tup2 (.int q tq) (.bool _)) :: (bk, _) :: (kd, ok1) :: R) _ _ (by assumption) (fun p hp => N8 p ?_) ⟨_, _, _, kd, ok1, kvs1, _, a, q, t1', rfl, rfl, hd9, rfl, hok1, hkn1, hks1, hkl1, lo, hne, r2, ⟨Nat.ne_of_gt l9.2.2.1, Nat.ne_of_gt l9.2.2.2.1, allLt_ne l9.2.2.2.2⟩, ea, hq, ha, hkx, hov, hnk⟩
      revert p; walk_at "mine in"
    | false =>
      with_reducible show wpAny _ _ _ _ _ _
      (try k_fold)
      k_steps
      rename Obj.IsDictOf (PySem.strKind _ _) _ _ => hd9
      rename News _ _ _ _ => N8
      rename _ < _ ∧ _ < _ ∧ bk < _ ∧ kd < _ ∧ AllLt _ R => l9
      refine hret _ ((_, tup2 (.int q tq) (.bool _)) :: (bk, _) :: (kd, ok1) :: R) _ _ (by assumption) (fun p hp => N8 p ?_) ⟨_, _, _, kd, ok1, kvs1, _, a, q, t1', rfl, rfl, hd9, rfl, hok1, hkn1, hks1, hkl1, lo, hne, r2, ⟨Nat.ne_of_gt l9.2.2.1, Nat.ne_of_gt l9.2.2.2.1, allLt_ne l9.2.2.2.2⟩, ea, hq, ha, hkx, hov, hnk⟩
      revert p; walk_at "mine in"
  | some f =>
    have hfv' := hfv1
    obtain ⟨tf, rfl⟩ := hfv'
    cases over with
    | true =>
      with_reducible show wpAny _ _ _ _ _ _
      (try k_fold)
      k_steps
      rename Obj.IsDictOf (PySem.strKind _ _) _ _ => hd9
      rename News _ _ _ _ => N8
      rename _ < _ ∧ _ < _ ∧ bk < _ ∧ kd < _ ∧ AllLt _ R => l9
      refine hret _ ((_, tup2 (.int q tq) (.bool _)) :: (bk, _) :: (kd, ok1) :: R) _ _ (by assumption) (fun p hp => N8 p ?_) ⟨_, _, _, kd, ok1, kvs1, _, a, q, t1', rfl, rfl, hd9, ⟨_, rfl⟩, hok1, hkn1, hks1, hkl1, lo, hne, r2, ⟨Nat.ne_of_gt l9.2.2.1, Nat.ne_of_gt l9.2.2.2.1, allLt_ne l9.2.2.2.2⟩, ea, hq, ha, hkx, hov, hnk⟩
      revert p; walk_at "mine in"
    | false =>
      with_reducible show wpAny _ _ _ _ _ _
      (try k_fold)
      k_steps
      rename Obj.IsDictOf (PySem.strKind _ _) _ _ => hd9
      rename News _ _ _ _ => N8
      rename _ < _ ∧ _ < _ ∧ bk < _ ∧ kd < _ ∧ AllLt _ R => l9
      rw [show (f == a) = (false || decide (some f = some a)) by simp [Bool.beq_eq_decide_eq]] at hd9
      refine hret _ ((_, tup2 (.int q tq) (.bool _)) :: (bk, _) :: (kd, ok1) :: R) _ _ (by assumption) (fun p hp => N8 p ?_) ⟨_, _, _, kd, ok1, kvs1, _, a, q, t1', rfl, rfl, hd9, ⟨_, rfl⟩, hok1, hkn1, hks1, hkl1, lo, hne, r2, ⟨Nat.ne_of_gt l9.2.2.1, Nat.ne_of_gt l9.2.2.2.1, allLt_ne l9.2.2.2.2⟩, ea, hq, ha, hkx, hov, hnk⟩
      revert p; walk_at "mine in"
end

theorem anew_26 : True := by w_top off; trivial
theorem say_26_1 : True := by
  k_with "CompSrc" => ((k_here; refine stop_ ?_))
  trivial
theorem off1_mem {D : Addr} : ∀ {l : Led}, LCg.Off1 D l → ∀ p ∈ l, p.1 ≠ D
  | [], _, _, h => nomatch h
  | _ :: _, x, p, h => by
    rcases List.mem_cons.mp h with rfl | h
    · exact x.1
    · exact off1_mem x.2 p h
theorem apart_nil {P : Led} : Apart [] P := fun _ h => nomatch h
theorem apart_cons {a : Addr} {o : Obj} {R P : Led} (h : ∀ p ∈ P, p.1 ≠ a) (A : Apart R P) : Apart ((a, o) :: R) P := fun q hq p hp => by
  rcases List.mem_cons.mp hq with rfl | hq
  · exact (h p hp).symm
  · exact A q hq p hp
theorem apart_hd {q : Addr × Obj} {R P : Led} (A : Apart (q :: R) P) : ∀ p ∈ P, p.1 ≠ q.1 := fun p hp => (A q (.head _) p hp).symm
theorem apart_tl {q : Addr × Obj} {R P : Led} (A : Apart (q :: R) P) : Apart R P := fun x hx => A x (.tail _ hx)
theorem noTup_nil : NoTup [] := fun _ h => nomatch h
theorem noTup_cons {a : Addr} {o : Obj} {R : Led} (h : ∀ u v, o ≠ tup2 u v) (A : NoTup R) : NoTup ((a, o) :: R) := fun q hq => by
  rcases List.mem_cons.mp hq with rfl | hq
  · exact h
  · exact A q hq
theorem dictObj_ne_tup {prog : Program} {w : World} {K : Type} [DecidableEq K] {knd : KeyKind prog w K} {o : Obj} {kvs : List (K × Value)} (h : o.IsDictOf knd kvs) (u v : Value) : o ≠ tup2 u v := fun e => by
  obtain ⟨es, ep, _, hd, _⟩ := h
  rw [e] at hd
  cases hd
theorem cell_ne_tup {o : Obj} {x : Option Value} (h : o.data = .cell x) (u v : Value) : o ≠ tup2 u v := fun e => by
  rw [e] at h
  cases h
theorem listObj_ne_tup {l : Array Value} {n : Nat} (u v : Value) : listOf l n ≠ tup2 u v := tup_ne_list.symm
theorem bytes_ints {prog : Program} {w : World} {A : Around} {E : Value → Shared → Prop} {s : Shared} {h₀ : Heap} {L D : Addr} {m : Str → Option Value} {news : Led} {ys : List Value} {n : Nat} {p q : Int} {Q : Value → Shared → Prop}
    (F : Fr h₀ L s.heap m) (N : News h₀ L s.heap news) (hh : A.handled = none) (hl : (D, listOf ys.toArray n) ∈ news) (hi : IntsAre ys ((rangeKs p (q - p).toNat).map fun k => k + 1)) (hb : 0 ≤ p ∧ q ≤ 200)
    (h : ∀ h' t' k, Fr h₀ L h' m → News h₀ L h' news → Q (.bytes (octs p q) t') { s with heap := h', toks := k }) : wpAny (model prog w) A (call (.type "bytes") [.ref D]) Q E s := by
  refine KBa.make_K F N hh ⟨_, (N _ hl).1, rfl, n, rfl⟩ hi (fun k hk => ?_) (by rw [List.length_map, rangeKs_length]; (first | lia | omega)) fun h' t' k F' N' _ => ?_
  · obtain ⟨j, hj, rfl⟩ := List.mem_map.mp hk
    have := mem_rangeKs hj
    (first | lia | omega)
  · rw [octs_bytes hb.1]
    exact h h' t' k F' N'
theorem say_26_2 : True := by
  k_with "call type:bytes" => ((k_here; (with_reducible show wpAny _ _ (call (Value.type "bytes") [Value.ref _]) _ _ _); (with_reducible rename Fr _ _ _ _ => FZ'); (with_reducible rename News _ _ _ _ => NZ'); refine' bytes_ints FZ' NZ' ?hh ?hl ?hi ?hb ?_; (case hh => rfl); (case hl => k_mem); (case hi => assumption); (case hb => walk_at "mine om"); intro hZ' tZ' kZ' FZ' NZ'))
  trivial
/-- a figure was drawn and named -/
inductive DrawJ (x : Str) (top : Int) (pre post : Led) (src sl : Addr) (names : List (Str × Value)) (m : Str → Option Value) (nx : Led) : Prop
  | mk : ∀ v tv a b ta tb n1 n2 vs, nx = pre ++ (src, srcO a b ta tb sl n1) :: (sl, rowO vs n2) :: post →
    (0 ≤ v ∧ v < top) →
    0 ≤ a →
    (0 ≤ b ∧ b < 2147483647) →
    IntsV vs →
    vs.length ≤ 64 →
    (∀ p ∈ (x, Value.int v tv) :: names, m p.1 = some p.2) → DrawJ x top pre post src sl names m nx
section
variable {w : World} {mean : ExcName → Option Value} {mg mb : Str → Option Value} {P : Led} {r : Addr} {S : RS}
/-- the draws' source in the ledger, its figures in their bounds -/
noncomputable def SrcOk (a b : Int) (vs : List Value) : Prop := 0 ≤ a ∧ (0 ≤ b ∧ b < 2147483647) ∧ IntsV vs ∧ vs.length ≤ 64
noncomputable def OffFive (src sl bk kd cc ci : Addr) (P : Led) : Prop := (∀ p ∈ P, p.1 ≠ src) ∧ (∀ p ∈ P, p.1 ≠ sl) ∧ (∀ p ∈ P, p.1 ≠ bk) ∧ (∀ p ∈ P, p.1 ≠ kd) ∧ (∀ p ∈ P, p.1 ≠ cc) ∧ (∀ p ∈ P, p.1 ≠ ci)
inductive RdPost (w : World) (src sl bk kd cc ci r : Addr) (ok oc oi : Obj) (S : RS) (edge : Int) (fv uv : Value) (over : Bool) (t1 t3 : Tok) (y : Value) (n' : Led) : Prop
  | mk : ∀ k a b ta tb n1 n2 vs ob' P' tr, n' = (src, srcO a b ta tb sl n1) :: (sl, rowO vs n2) :: (bk, ob') :: (kd, ok) :: (cc, oc) :: (ci, oi) :: P' →
    0 ≤ k →
    SrcOk a b vs →
    ob'.IsDictOf (PySem.strKind PRG w) (bookKV S.n (min S.n (S.rd + k)) edge kd fv uv over t1 tr t3) →
    Recv w r (readS k S) P' →
    OffFive src sl bk kd cc ci P' →
    y = .bool true → RdPost w src sl bk kd cc ci r ok oc oi S edge fv uv over t1 t3 y n'
theorem if_min {a b : Int} : (if b < a then b else a) = min a b := by
  by_cases g : b < a
  · rw [if_pos g, Int.min_eq_right (Int.le_of_lt g)]
  · rw [if_neg g, Int.min_eq_left (Int.not_lt.mp g)]
theorem read_right_spec {src sl bk kd cc ci : Addr} {oc oi : Obj} {a b : Int} {ta tb : Tok} {n1 n2 : Nat} {vs : List Value} {ob ok : Obj} {kvs : List (Int × Value)} {edge : Int} {fv uv : Value} {over : Bool} {t1 t2 t3 : Tok}
    (hb : 0 ≤ a ∧ 0 ≤ b ∧ b < 2147483647) (hvs : IntsV vs) (hvl : vs.length ≤ 64) (hob : ob.IsDictOf (PySem.strKind PRG w) (bookKV S.n S.rd edge kd fv uv over t1 t2 t3)) (hok : ok.IsDictOf (PySem.intKind PRG w) kvs) (hkn : KnownIs kvs) (lo : (kd == sysModules) = false)
    (hin : ∀ x, S.rd ≤ x → x < S.n → Keys kvs x) (H : Recv w r S P) (good : ROk S)
    (i1 : src ≠ sl) (i2 : src ≠ bk) (i3 : src ≠ kd) (i4 : sl ≠ bk) (i5 : sl ≠ kd) (i6 : bk ≠ kd) (j1 : ∀ p ∈ P, p.1 ≠ src) (j2 : ∀ p ∈ P, p.1 ≠ sl) (j3 : ∀ p ∈ P, p.1 ≠ bk) (j4 : ∀ p ∈ P, p.1 ≠ kd) (j5 : ∀ p ∈ P, p.1 ≠ cc) (j6 : ∀ p ∈ P, p.1 ≠ ci) (m1 : cc ≠ src) (m2 : cc ≠ sl) (m3 : cc ≠ bk) (m4 : ci ≠ src) (m5 : ci ≠ sl) (m6 : ci ≠ bk) (hcc : ∀ u v, oc ≠ tup2 u v) (hci : ∀ u v, oi ≠ tup2 u v) :
    Spec w mean mg mb 317 30 [.ref src, .ref r, .ref bk] ((src, srcO a b ta tb sl n1) :: (sl, rowO vs n2) :: (bk, ob) :: (kd, ok) :: (cc, oc) :: (ci, oi) :: P) (RdPost w src sl bk kd cc ci r ok oc oi S edge fv uv over t1 t3) := by
  have h1 := good.ring
  have h2 := good.room
  have h3 := good.rd
  have h4 := good.n
  unfold Spec; k_fill; intro dp un gd cn cs a' ccd cl outer A₀ base h₀ L m s Q E B F X N T hk hdp hun hret
  obtain ⟨ha, hb⟩ := hb
  refine wpAny_call ?_
  k_dflt (refine' code_defC (binds := [("source", .ref src), ("receiver", .ref r), ("book", .ref bk)]) ?k1 ?k2 ?k3 ?k4 ?k5 ?kA ?kF ?kK ?k6 ?k7 ?k8 ?k9 ?kB ?kD ?_ ?c2 ?c3 ?c4; walk_at "mine enterC")
  intro g' L' h' tk' cells' FG' F' N' Y' B' X' T' l1
  have l2 := l1
  k_lt l1
  obtain ⟨oB, rfl, d1'⟩ := CellsAre.one Y'
  simp only [List.cons_append, List.nil_append] at N'
  have F1 : Fr g' L' h' (chain [("receiver", .ref r), ("source", .ref src)] fun _ => none) := F'
  have dB : oB.data = .cell (some (.ref bk)) := d1'
  clear F' d1' Y'
  have c1 : ∀ p ∈ (src, srcO a b ta tb sl n1) :: (sl, rowO vs n2) :: (bk, ob) :: (kd, ok) :: (cc, oc) :: (ci, oi) :: P, p.1 ≠ L' + 1 := fun p hp => Nat.ne_of_lt (Nat.lt_succ_of_lt (l2 p hp))
  have c2 : ∀ p ∈ P, p.1 ≠ L' + 1 := fun p hp => c1 p (.tail _ (.tail _ (.tail _ (.tail _ (.tail _ (.tail _ hp))))))
  have c7 : cc ≠ L' + 1 := c1 _ (.tail _ (.tail _ (.tail _ (.tail _ (.head _)))))
  have c8 : ci ≠ L' + 1 := c1 _ (.tail _ (.tail _ (.tail _ (.tail _ (.tail _ (.head _))))))
  have c3 : src ≠ L' + 1 := c1 _ (.head _)
  have c4 : sl ≠ L' + 1 := c1 _ (.tail _ (.head _))
  have c5 : bk ≠ L' + 1 := c1 _ (.tail _ (.tail _ (.head _)))
  have c6 : kd ≠ L' + 1 := c1 _ (.tail _ (.tail _ (.tail _ (.head _))))
  clear c1 l2
  dsimp only
  (try k_fold)
  refine wpAny_cut F1 (DrawJ "many" 9 [(L' + 1, oB)] ((bk, ob) :: (kd, ok) :: (cc, oc) :: (ci, oi) :: P) src sl [("receiver", .ref r), ("source", .ref src)]) ?_ ?_
  · intro QC9 hQC9
    k_steps
    rename Fr _ _ _ _ => F9
    rename News _ _ _ _ => N9
    show CutEnd _ _ _ _ _ .next _
    exact .next F9 N9 ⟨_, _, _, _, _, _, _, _, _, rfl, by assumption, by assumption, by assumption, by assumption, by assumption, all2 rfl (all2 rfl (all2 rfl all0))⟩
  clear F1 N' ha hb hvs hvl N
  intro h1 tk1 m1 nx1 F1 N1 hJ
  obtain ⟨k, tk9, a, b, ta, tb, n1, n2, vs, rfl, hk9, ha, hb, hvs, hvl, hm⟩ := hJ
  have F2 := Fr_chain _ F1 hm
  replace N1 : News g' L' h1 ((L' + 1, oB) :: (src, srcO a b ta tb sl n1) :: (sl, rowO vs n2) :: (bk, ob) :: (kd, ok) :: (cc, oc) :: (ci, oi) :: P) := N1
  clear F1 hm
  have he9 : ∃ e, e = min S.n (S.rd + k) := ⟨_, rfl⟩
  obtain ⟨e, he⟩ := he9
  have hee : Stop ((if S.rd + k < S.n then S.rd + k else S.n) = e) := by rw [he]; exact if_min
  have hke : S.rd ≤ e ∧ e ≤ S.n := by rw [he]; exact ⟨Int.le_min.mpr ⟨h3.2, Int.le_add_of_nonneg_right hk9.1⟩, Int.min_le_left _ _⟩
  have ec : S.rd + ((e - S.rd).toNat : Int) = e := by rw [Int.toNat_of_nonneg (Int.sub_nonneg_of_le hke.1), Int.add_comm, Int.sub_add_cancel]
  replace he : Stop (e = min S.n (S.rd + k)) := he
  refine wpAny_cut F2 (fun m nx => ∃ D ys, nx = (D, LCg.lst ys) :: (L' + 1, oB) :: (src, srcO a b ta tb sl n1) :: (sl, rowO vs n2) :: (bk, ob) :: (kd, ok) :: (cc, oc) :: (ci, oi) :: P ∧ IntsAre ys ((rangeKs S.rd (e - S.rd).toNat).map fun x => x + 1) ∧
      LCg.Off1 D ((L' + 1, oB) :: (src, srcO a b ta tb sl n1) :: (sl, rowO vs n2) :: (bk, ob) :: (kd, ok) :: (cc, oc) :: (ci, oi) :: P) ∧ ∀ p ∈ [(("due" : Str), Value.ref D), ("many", .int k tk9), ("receiver", .ref r)], m p.1 = some p.2) ?_ ?_
  · intro QC9 hQC9
    k_dflt (refine LCg.Assign_ListComp_U F2 (by rfl) (by with_unfolding_all rfl) (by with_unfolding_all rfl) (by decide) (by rfl) (by decide) (by rfl) (by rfl) (by rfl) ?_)
    (try k_fold)
    k_steps
    rename IsRange _ _ _ _ _ _ _ _ => hr9
    rename Fr _ _ _ _ => F9
    rename News _ _ _ _ => N9
    rw [show (if S.rd + k < S.n then S.rd + k else S.n) = e from hee] at hr9
    show LCg.CompSrc _ _ _ _ _ _ _ _ _ _ _ _ _ _
    refine LCg.CompSrc.range rfl F9 N9 hr9 (small_one (by (first | lia | omega)) (by (first | lia | omega)) (by (first | lia | omega)) (by (first | lia | omega))) (rangeSize_nat _ _) (by rw [sizeLine_eq]; (first | lia | omega)) fun g9 => comp_ints _ (fun x => x + 1) True.intro ?_ ?_
    · intro k9 t9 I oI C oC D m₂ ys h tk9 E' hk1 hk2 hC hx F8 N8 off n1 n2 n3
      obtain ⟨tv, hv9⟩ := known_at hkn (hin k9 hk1 (by rw [ec] at hk2; exact Int.lt_of_lt_of_le hk2 hke.2))
      clear F9 N9
      with_reducible show wpAny _ _ _ _ _ _
      (try k_fold)
      k_steps
      rename Fr _ _ _ _ => F7
      rename News _ _ _ _ => N7
      exact ⟨_, _, _, rfl, F7, N7, rfl⟩
    · intro ys hys D h tk8 F8 N8 off
      exact hQC9 _ _ (.next F8 N8 ⟨D, ys, rfl, hys, off, all2 rfl (all2 rfl (all2 rfl all0))⟩)
  clear F2 N1
  intro h2 tk2 m2 nx2 F1 N1 hJ
  obtain ⟨D, ys, rfl, hys, off, hm⟩ := hJ
  have F2 := Fr_chain _ F1 hm
  clear F1 hm
  simp only [LCg.Off1] at off
  obtain ⟨d1, d2, d3, d4, d5, d7, d8, d6⟩ := off
  have hyl : ys.length = (e - S.rd).toNat := by rw [hys.length, List.length_map, rangeKs_length]
  refine wpAny_cut F2 (fun m nx => ∃ ob1 tr, nx = (D, LCg.lst ys) :: (L' + 1, oB) :: (src, srcO a b ta tb sl n1) :: (sl, rowO vs n2) :: (bk, ob1) :: (kd, ok) :: (cc, oc) :: (ci, oi) :: P ∧ ob1.IsDictOf (PySem.strKind PRG w) (bookKV S.n e edge kd fv uv over t1 tr t3) ∧
      ∀ p ∈ [(("due" : Str), Value.ref D), ("many", .int k tk9), ("receiver", .ref r)], m p.1 = some p.2) ?_ ?_
  · intro QC9 hQC9
    with_reducible show wpAny _ _ _ _ _ _
    (try k_fold)
    k_steps
    rename Fr _ _ _ _ => F9
    rename News _ _ _ _ => N9
    rename Obj.IsDictOf (PySem.strKind _ _) _ _ => hd9
    rw [show S.rd + ((List.map (fun x => x + 1) (rangeKs S.rd (e - S.rd).toNat)).length : Int) = e by rw [List.length_map, rangeKs_length]; exact ec] at hd9
    show CutEnd _ _ _ _ _ .next _
    exact .next F9 N9 ⟨_, _, rfl, hd9, all2 rfl (all2 rfl (all2 rfl all0))⟩
  clear F2 N1 hob
  intro h3 tk3 m3 nx3 F1 N1 hJ
  obtain ⟨ob1, tr, rfl, hob1, hm⟩ := hJ
  have F2 := Fr_chain _ F1 hm
  clear F1 hm
  obtain ⟨dr, rb, x, dx, l, vs9, nn, k0, k1, k2, k3, k4, k5, k6, k7, k8, k9, v0, v1, v2, v3, v6, a1, a2, a3, fv9, uv9, H1⟩ := id H
  have sub : ∀ p ∈ P, p ∈ (D, LCg.lst ys) :: (L' + 1, oB) :: (src, srcO a b ta tb sl n1) :: (sl, rowO vs n2) :: (bk, ob1) :: (kd, ok) :: (cc, oc) :: (ci, oi) :: P := fun p hp => .tail _ (.tail _ (.tail _ (.tail _ (.tail _ (.tail _ (.tail _ (.tail _ hp)))))))
  have mr := sub _ H1.mr
  have md := sub _ H1.md
  with_reducible show wpAny _ _ _ _ _ _
  (try k_fold)
  k_steps
  k_dflt (refine' Spec.use (read_spec (R := [(D, LCg.lst ys), (L' + 1, oB), (src, srcO a b ta tb sl n1), (sl, rowO vs n2), (bk, ob1), (kd, ok), (cc, oc), (ci, oi)]) H ?ap ?nt good hk9.1) ?B ?F ?X ?N ?T ?hk ?hd ?hu ?_; walk_at "mine use")
  case ap => exact apart_cons (off1_mem d6) (apart_cons c2 (apart_cons j1 (apart_cons j2 (apart_cons j3 (apart_cons j4 (apart_cons j5 (apart_cons j6 apart_nil)))))))
  case nt => exact noTup_cons listObj_ne_tup (noTup_cons (cell_ne_tup dB) (noTup_cons listObj_ne_tup (noTup_cons listObj_ne_tup (noTup_cons (dictObj_ne_tup hob1) (noTup_cons (dictObj_ne_tup hok) (noTup_cons hcc (noTup_cons hci noTup_nil)))))))
  rintro r9 n9 h9 tk9 F9 N9 ⟨P', t9, rfl, H', A', rfl⟩
  replace N9 : News g' L' h9 ((D, LCg.lst ys) :: (L' + 1, oB) :: (src, srcO a b ta tb sl n1) :: (sl, rowO vs n2) :: (bk, ob1) :: (kd, ok) :: (cc, oc) :: (ci, oi) :: P') := N9
  clear F2 N1 mr md sub
  (try dsimp only)
  (try k_fold)
  k_steps
  rename News _ _ _ _ => N8
  have he : e = min S.n (S.rd + k) := he
  rw [octs_bytes good.rd.1, ← he, beq_self_eq_true]
  rw [he] at hob1
  have A2 := apart_tl (apart_tl A')
  refine hret _ ((src, srcO a b ta tb sl n1) :: (sl, rowO vs n2) :: (bk, ob1) :: (kd, ok) :: (cc, oc) :: (ci, oi) :: P') _ _ (by assumption) (fun p hp => N8 p (.tail _ (.tail _ hp))) ⟨k, a, b, ta, tb, n1, n2, vs, ob1, P', tr, rfl, hk9.1, ⟨ha, hb, hvs, hvl⟩, hob1, H', ⟨apart_hd A2, apart_hd (apart_tl A2), apart_hd (apart_tl (apart_tl A2)), apart_hd (apart_tl (apart_tl (apart_tl A2))), apart_hd (apart_tl (apart_tl (apart_tl (apart_tl A2)))), apart_hd (apart_tl (apart_tl (apart_tl (apart_tl (apart_tl A2)))))⟩, rfl⟩
end

theorem anew_27 : True := by w_top off; trivial
theorem say_27_1 : True := by
  k_with "call ref" => ((k_here; (with_reducible show wpAny _ _ (call (Value.ref 237) _) _ _ _); k_dflt (
  (refine' Spec.useI (available_spec ?h1 ?h2) ?B ?F ?X ?N ?T ?hk ?hd ?hu ?_; walk_at "mine use"; (case h1 => walk_at "mine recv"); (case h2 => assumption))); intro tZ' hZ' tkZ' FZ' NZ'; (try dsimp only); (try k_sweep); (try k_fold)))
  trivial
theorem say_27_2 : True := by
  k_with "call ref" => ((k_here; (with_reducible show wpAny _ _ (call (Value.ref 167) _) _ _ _); k_dflt (
  (refine' Spec.useI (free_edge_spec ?h1 ?h2) ?B ?F ?X ?N ?T ?hk ?hd ?hu ?_; walk_at "mine use"; (case h1 => walk_at "mine recv"); (case h2 => assumption))); intro tZ' hZ' tkZ' FZ' NZ'; (try dsimp only); (try k_sweep); (try k_fold)))
  trivial
theorem say_27_3 : True := by
  k_with "call ref" => ((k_here; (with_reducible show wpAny _ _ (call (Value.ref 251) _) _ _ _); k_dflt (
  (refine' Spec.useB (is_over_spec ?h1 ?h2) ?B ?F ?X ?N ?T ?hk ?hd ?hu ?_; walk_at "mine use"; (case h1 => walk_at "mine recv"); (case h2 => assumption))); intro hZ' tkZ' FZ' NZ'; (try dsimp only); (try k_sweep); (try k_fold)))
  trivial
section
variable {w : World} {mean : ExcName → Option Value} {mg mb : Str → Option Value} {P : Led} {r : Addr} {S : RS}
noncomputable def tellV (rd : Int) : Option Int → Int
  | none => 0
  | some u => max 0 (u - rd)
inductive StPost (w : World) (src sl bk kd cc ci r : Addr) (o1 o2 ob ok oc oi : Obj) (S : RS) (y : Value) (n' : Led) : Prop
  | mk : ∀ P', n' = (src, o1) :: (sl, o2) :: (bk, ob) :: (kd, ok) :: (cc, oc) :: (ci, oi) :: P' →
    Recv w r (leftS S) P' →
    OffFive src sl bk kd cc ci P' →
    y = .bool true → StPost w src sl bk kd cc ci r o1 o2 ob ok oc oi S y n'
theorem stands_spec {src sl bk kd cc ci : Addr} {oc oi : Obj} {a b : Int} {ta tb : Tok} {n1 n2 : Nat} {vs : List Value} {ob ok : Obj} {kvs : List (Int × Value)} {edge : Int} {fv uv : Value} {t1 t2 t3 u1 u2 u3 : Tok} {bu : Option Int}
    (hob : ob.IsDictOf (PySem.strKind PRG w) (bookKV S.n S.rd edge kd fv uv S.over t1 t2 t3)) (hok : ok.IsDictOf (PySem.intKind PRG w) kvs)
    (huv : OptV uv bu) (hU : leftV S = tellV S.rd bu) (H : Recv w r S P) (good : ROk S) (off : OffFive src sl bk kd cc ci P) (hcc : ∀ u v, oc ≠ tup2 u v) (hci : ∀ u v, oi ≠ tup2 u v) :
    Spec w mean mg mb 312 30 [.ref r, .ref bk, .int S.bs u1, .int S.ring u2, .int S.room u3] ((src, srcO a b ta tb sl n1) :: (sl, rowO vs n2) :: (bk, ob) :: (kd, ok) :: (cc, oc) :: (ci, oi) :: P) (StPost w src sl bk kd cc ci r (srcO a b ta tb sl n1) (rowO vs n2) ob ok oc oi S) := by
  have h1 := good.ring
  have h2 := good.room
  have h3 := good.rd
  have h4 := good.n
  obtain ⟨j1, j2, j3, j4, j5, j6⟩ := off
  unfold Spec; k_fill; intro dp un gd cn cs a' ccd cl outer A₀ base h₀ L m s Q E B F X N T hk hdp hun hret
  have sub : ∀ p ∈ P, p ∈ (src, srcO a b ta tb sl n1) :: (sl, rowO vs n2) :: (bk, ob) :: (kd, ok) :: (cc, oc) :: (ci, oi) :: P := fun p hp => .tail _ (.tail _ (.tail _ (.tail _ (.tail _ (.tail _ hp)))))
  have H0 := H.mono sub
  obtain ⟨dr, rb, x, dx, l, vs9, nn, k0, k1, k2, k3, k4, k5, k6, k7, k8, k9, v0, v1, v2, v3, v6, a1, a2, a3, fv9, uv9, H1⟩ := id H
  have mr := sub _ H1.mr
  have md := sub _ H1.md
  clear H1 sub
  refine wpAny_call ?_
  k_dflt (refine' code_defM [("room", .int S.room u3), ("ring", .int S.ring u2), ("base", .int S.bs u1), ("book", .ref bk), ("receiver", .ref r)] ?k1 ?k2 ?k3 ?k4 ?k5 ?kA ?kF ?kK ?k6 ?k7 ?k8 ?k9 ?kB ?_ ?c2 ?c3 ?c4 ?c5; walk_at "mine enter")
  cases ho : S.over with
  | true =>
    have h6 : S.nx = S.n + 1 := by unfold RS.nx; rw [ho]; rfl
    have e1 : (S.bs + S.n + if true = true then 1 else 0).fmod S.ring = sq S.ring S.bs S.nx := by
      unfold sq
      rw [fm (by (first | lia | omega)), if_pos rfl, h6, Int.add_assoc]
    have e2 : (sq S.ring S.bs S.nx + S.room - (S.n - S.rd)).fmod S.ring = sq S.ring S.bs (S.nx + (S.room - (S.n - S.rd))) := by
      rw [fm (by (first | lia | omega)), Int.add_sub_assoc, sq_add]
    rw [ho] at md hob
    k_steps
    · rename sq _ _ _ ≠ _ => e9
      exact absurd e1.symm e9
    · rename S.n - S.rd ≠ _ => e9
      exact absurd rfl e9
    · rename (_ != _) = true => e9
      rw [ho] at e9
      exfalso
      revert e9
      by_cases c : S.n = S.rd
      · simp [c]
      · simp [c, show ¬ S.n - S.rd = 0 by (first | lia | omega)]
    · rename sq _ _ _ ≠ _ => e9
      rw [e1, e2] at e9
      exact absurd rfl e9
    · rename News _ _ _ _ => N9
      k_dflt (refine' Spec.use (urgent_left_spec (R := [(src, srcO a b ta tb sl n1), (sl, rowO vs n2), (bk, ob), (kd, ok), (cc, oc), (ci, oi)]) H ?ap ?nt good) ?B ?F ?X ?N ?T ?hk ?hd ?hu ?_; walk_at "mine use")
      case ap => exact apart_cons j1 (apart_cons j2 (apart_cons j3 (apart_cons j4 (apart_cons j5 (apart_cons j6 apart_nil)))))
      case nt => exact noTup_cons listObj_ne_tup (noTup_cons listObj_ne_tup (noTup_cons (dictObj_ne_tup hob) (noTup_cons (dictObj_ne_tup hok) (noTup_cons hcc (noTup_cons hci noTup_nil)))))
      rintro r9 n9 h9 tk9 F9 N9' ⟨P', t9, rfl, H', A', rfl⟩
      replace N9' : News _ _ h9 ((src, srcO a b ta tb sl n1) :: (sl, rowO vs n2) :: (bk, ob) :: (kd, ok) :: (cc, oc) :: (ci, oi) :: P') := N9'
      clear mr md H0 N9
      (try k_sweep)
      (try dsimp only)
      (try k_fold)
      cases bu with
      | none =>
        have huv' := huv
        obtain rfl : uv = .none := huv'
        k_steps
        rename News _ _ _ _ => N8
        rw [show leftV S = 0 from hU, beq_self_eq_true]
        exact hret _ ((src, srcO a b ta tb sl n1) :: (sl, rowO vs n2) :: (bk, ob) :: (kd, ok) :: (cc, oc) :: (ci, oi) :: P') _ _ (by assumption) N8 ⟨P', rfl, H', ⟨apart_hd A', apart_hd (apart_tl A'), apart_hd (apart_tl (apart_tl A')), apart_hd (apart_tl (apart_tl (apart_tl A'))), apart_hd (apart_tl (apart_tl (apart_tl (apart_tl A')))), apart_hd (apart_tl (apart_tl (apart_tl (apart_tl (apart_tl A')))))⟩, rfl⟩
      | some u =>
        have huv' := huv
        obtain ⟨tu, rfl⟩ := huv'
        k_steps
        rename News _ _ _ _ => N8
        rw [show leftV S = (if u - S.rd > 0 then u - S.rd else 0) from hU.trans (show max 0 (u - S.rd) = _ by split <;> (first | lia | omega)), beq_self_eq_true]
        exact hret _ ((src, srcO a b ta tb sl n1) :: (sl, rowO vs n2) :: (bk, ob) :: (kd, ok) :: (cc, oc) :: (ci, oi) :: P') _ _ (by assumption) N8 ⟨P', rfl, H', ⟨apart_hd A', apart_hd (apart_tl A'), apart_hd (apart_tl (apart_tl A')), apart_hd (apart_tl (apart_tl (apart_tl A'))), apart_hd (apart_tl (apart_tl (apart_tl (apart_tl A')))), apart_hd (apart_tl (apart_tl (apart_tl (apart_tl (apart_tl A')))))⟩, rfl⟩
  | false =>
    have h6 : S.nx = S.n := by unfold RS.nx; rw [ho]; rfl
    have e1 : (S.bs + S.n + if false = true then 1 else 0).fmod S.ring = sq S.ring S.bs S.nx := by
      unfold sq
      rw [fm (by (first | lia | omega)), if_neg (show ¬ false = true by decide), h6, Int.add_zero]
    have e2 : (sq S.ring S.bs S.nx + S.room - (S.n - S.rd)).fmod S.ring = sq S.ring S.bs (S.nx + (S.room - (S.n - S.rd))) := by
      rw [fm (by (first | lia | omega)), Int.add_sub_assoc, sq_add]
    rw [ho] at md hob
    k_steps
    · rename sq _ _ _ ≠ _ => e9
      exact absurd e1.symm e9
    · rename S.n - S.rd ≠ _ => e9
      exact absurd rfl e9
    · rename (_ != _) = true => e9
      rw [ho] at e9
      exfalso
      revert e9
      by_cases c : S.n = S.rd
      · simp [c]
      · simp [c, show ¬ S.n - S.rd = 0 by (first | lia | omega)]
    · rename sq _ _ _ ≠ _ => e9
      rw [e1, e2] at e9
      exact absurd rfl e9
    · rename News _ _ _ _ => N9
      k_dflt (refine' Spec.use (urgent_left_spec (R := [(src, srcO a b ta tb sl n1), (sl, rowO vs n2), (bk, ob), (kd, ok), (cc, oc), (ci, oi)]) H ?ap ?nt good) ?B ?F ?X ?N ?T ?hk ?hd ?hu ?_; walk_at "mine use")
      case ap => exact apart_cons j1 (apart_cons j2 (apart_cons j3 (apart_cons j4 (apart_cons j5 (apart_cons j6 apart_nil)))))
      case nt => exact noTup_cons listObj_ne_tup (noTup_cons listObj_ne_tup (noTup_cons (dictObj_ne_tup hob) (noTup_cons (dictObj_ne_tup hok) (noTup_cons hcc (noTup_cons hci noTup_nil)))))
      rintro r9 n9 h9 tk9 F9 N9' ⟨P', t9, rfl, H', A', rfl⟩
      replace N9' : News _ _ h9 ((src, srcO a b ta tb sl n1) :: (sl, rowO vs n2) :: (bk, ob) :: (kd, ok) :: (cc, oc) :: (ci, oi) :: P') := N9'
      clear mr md H0 N9
      (try k_sweep)
      (try dsimp only)
      (try k_fold)
      cases bu with
      | none =>
        have huv' := huv
        obtain rfl : uv = .none := huv'
        k_steps
        rename News _ _ _ _ => N8
        rw [show leftV S = 0 from hU, beq_self_eq_true]
        exact hret _ ((src, srcO a b ta tb sl n1) :: (sl, rowO vs n2) :: (bk, ob) :: (kd, ok) :: (cc, oc) :: (ci, oi) :: P') _ _ (by assumption) N8 ⟨P', rfl, H', ⟨apart_hd A', apart_hd (apart_tl A'), apart_hd (apart_tl (apart_tl A')), apart_hd (apart_tl (apart_tl (apart_tl A'))), apart_hd (apart_tl (apart_tl (apart_tl (apart_tl A')))), apart_hd (apart_tl (apart_tl (apart_tl (apart_tl (apart_tl A')))))⟩, rfl⟩
      | some u =>
        have huv' := huv
        obtain ⟨tu, rfl⟩ := huv'
        k_steps
        rename News _ _ _ _ => N8
        rw [show leftV S = (if u - S.rd > 0 then u - S.rd else 0) from hU.trans (show max 0 (u - S.rd) = _ by split <;> (first | lia | omega)), beq_self_eq_true]
        exact hret _ ((src, srcO a b ta tb sl n1) :: (sl, rowO vs n2) :: (bk, ob) :: (kd, ok) :: (cc, oc) :: (ci, oi) :: P') _ _ (by assumption) N8 ⟨P', rfl, H', ⟨apart_hd A', apart_hd (apart_tl A'), apart_hd (apart_tl (apart_tl A')), apart_hd (apart_tl (apart_tl (apart_tl A'))), apart_hd (apart_tl (apart_tl (apart_tl (apart_tl A')))), apart_hd (apart_tl (apart_tl (apart_tl (apart_tl (apart_tl A')))))⟩, rfl⟩
end

theorem anew_27b : True := by w_top off; trivial
/-! The law's word between the turns -/
structure Inv (S : RS) (kvs : List (Int × Value)) (bu : Option Int) : Prop where
  good : ROk S
  can : Can S.n S.I
  keys : ∀ x, Keys kvs x ↔ (0 ≤ x ∧ x < S.n) ∨ InI S.I x
  lim : ∀ f, S.fin = some f → ∀ x, InI S.I x → x < f
  urg : S.urg = bu
  ahead : ∀ u, bu = some u → S.rd < u ∧ u ≤ 40
theorem ini_room {S : RS} (ok : ROk S) {x : Int} (h : InI S.I x) : S.n < x ∧ x < S.room := by
  obtain ⟨p, hp, h1, h2⟩ := h
  have := ok.parts p hp
  (first | lia | omega)
theorem arr1_fin {S : RS} (ok : ROk S) {v W : Int} {hf : Bool} : (arr1 v hf W S).fin = bookFin hf W v S.n S.fin ∧ ∀ x, InI (arr1 v hf W S).I x → InI S.I x := by
  have hnx := S.nx_le
  unfold arr1 bookFin
  by_cases c : hf = true ∧ W = v
  · rw [if_pos c]
    unfold noteS
    by_cases c2 : S.fin = none ∧ S.nx ≤ v
    · rw [if_pos c2, if_pos ⟨c.1, c.2, c2.1, by (first | lia | omega)⟩]
      refine ⟨rfl, fun x h => ?_⟩
      obtain ⟨p, hp, h1, h2⟩ := h
      have : ∀ (I : List (Int × Int)), p ∈ cutI v I → ∃ q ∈ I, p.1 = q.1 ∧ p.2 ≤ q.2 := by
        intro I
        induction I with
        | nil => intro h; exact nomatch h
        | cons q r ih =>
          intro h
          rw [cutI] at h
          split at h
          · rcases List.mem_cons.mp h with rfl | h
            · exact ⟨q, .head _, rfl, Int.min_le_left ..⟩
            · obtain ⟨q', a, b⟩ := ih h; exact ⟨q', .tail _ a, b⟩
          · obtain ⟨q', a, b⟩ := ih h; exact ⟨q', .tail _ a, b⟩
      obtain ⟨q, hq, e1, e2⟩ := this _ hp
      exact ⟨q, hq, by (first | lia | omega), by (first | lia | omega)⟩
    · rw [if_neg c2]
      refine ⟨?_, fun x h => h⟩
      rw [if_neg]
      rintro ⟨_, _, hfin, hv⟩
      have ho : S.over = false := by
        cases h : S.over
        · rfl
        · have := (ok.over h).2; rw [hfin] at this; cases this
      have : S.nx = S.n := by unfold RS.nx; rw [ho]; rfl
      exact c2 ⟨hfin, by (first | lia | omega)⟩
  · rw [if_neg c, if_neg fun h => c ⟨h.1, h.2.1⟩]
    exact ⟨rfl, fun x h => h⟩
/-- the parts behind the FIN's being told -/
theorem arr1_parts {S : RS} {kvs : List (Int × Value)} {bu : Option Int} (J : Inv S kvs bu) {v W : Int} {hf : Bool} {x : Int} :
    InI (arr1 v hf W S).I x ↔ InI S.I x ∧ ∀ f, bookFin hf W v S.n S.fin = some f → x < f := by
  obtain ⟨hfin, -⟩ := arr1_fin J.good (v := v) (W := W) (hf := hf)
  rw [← hfin]
  unfold arr1
  by_cases c : hf = true ∧ W = v
  · rw [if_pos c]
    unfold noteS
    by_cases c2 : S.fin = none ∧ S.nx ≤ v
    · rw [if_pos c2]
      rw [(cut_law S.I S.n J.can).2.2 x]
      refine and_congr_right fun _ => ⟨fun h f e => ?_, fun h => h v rfl⟩
      cases e
      exact h
    · rw [if_neg c2]
      exact ⟨fun h => ⟨h, fun f e => J.lim f e x h⟩, fun h => h.1⟩
  · rw [if_neg c]
    exact ⟨fun h => ⟨h, fun f e => J.lim f e x h⟩, fun h => h.1⟩
structure ArrRel (S : RS) (kvs : List (Int × Value)) (W : Int) (u : Int) (fin1 : Option Int) (kvs' : List (Int × Value)) (a : Int) : Prop where
  keys : ∀ x, Keys kvs' x ↔ (Keys kvs x ∨ (u ≤ x ∧ x < W ∧ S.n ≤ x)) ∧ ∀ f, fin1 = some f → x < f
  ge : S.n ≤ a
  run : ∀ x, S.n ≤ x → x < a → Keys kvs' x
  over : S.over = true → a = S.n
  stop : S.over = false → ¬ Keys kvs' a
theorem nx_iff {S : RS} {u : Int} : decide (u ≤ S.nx) = decide (u ≤ S.n + if S.over = true then 1 else 0) := by
  unfold RS.nx
  cases S.over <;> simp
/-- 'arrive' and the law's own reckoning of it are one -/
theorem arr_law {S : RS} {kvs kvs' : List (Int × Value)} {bu : Option Int} {u v a : Int} {hf : Bool} (J : Inv S kvs bu) (hu : 0 ≤ u ∧ u ≤ v ∧ v ≤ 40)
    (A : ArrRel S kvs (max u (min v S.room)) u (bookFin hf (max u (min v S.room)) v S.n S.fin) kvs' a) :
    arrV u v hf S = a - S.n ∧ (arrS u v hf S).n = a ∧ (arrS u v hf S).over = (S.over || decide (bookFin hf (max u (min v S.room)) v S.n S.fin = some a)) ∧ (arrS u v hf S).fin = bookFin hf (max u (min v S.room)) v S.n S.fin ∧
      (arrS u v hf S).rd = S.rd ∧ (arrS u v hf S).ring = S.ring ∧ (arrS u v hf S).bs = S.bs ∧ (arrS u v hf S).room = S.room ∧ Inv (arrS u v hf S) kvs' bu := by
  have hr := J.good.room
  have hd := J.good.rd
  have hn := J.good.n
  obtain ⟨ok1, can1⟩ := arr1_good (v := v) (hf := hf) (w := max u (min v S.room)) J.good J.can (by (first | lia | omega))
  have hfin := (arr1_fin J.good (v := v) (W := max u (min v S.room)) (hf := hf)).1
  have hparts := fun x => arr1_parts J (v := v) (W := max u (min v S.room)) (hf := hf) (x := x)
  have hW : max u (min v S.room) = max u (min v S.room) := rfl
  unfold arrV arrS arrP
  rw [hfin]
  have e1 : (arr1 v hf (max u (min v S.room)) S).n = S.n := arr1_n
  have e2 : (arr1 v hf (max u (min v S.room)) S).over = S.over := arr1_over
  have e3 : (arr1 v hf (max u (min v S.room)) S).rd = S.rd := arr1_rd
  have e4 : (arr1 v hf (max u (min v S.room)) S).ring = S.ring := arr1_ring
  have e5 : (arr1 v hf (max u (min v S.room)) S).bs = S.bs := arr1_bs
  have e6 : (arr1 v hf (max u (min v S.room)) S).room = S.room := arr1_room
  have e7 : (arr1 v hf (max u (min v S.room)) S).urg = S.urg := arr1_urg
  have hw : u ≤ max u (min v S.room) ∧ (u < max u (min v S.room) → max u (min v S.room) ≤ S.room) := maxmin_le
  have hovf : S.over = true → bookFin hf (max u (min v S.room)) v S.n S.fin = some S.n := fun ho => by
    have := (J.good.over ho).2
    unfold bookFin
    rw [if_neg fun h => by rw [this] at h; exact nomatch h.2.2.1]
    exact this
  generalize max u (min v S.room) = W at *
  generalize bookFin hf W v S.n S.fin = fin1 at *
  generalize arr1 v hf W S = S1 at *
  have hle := arrW_le (fin := fin1) hw.1
  obtain ⟨g1, g2, g3, g4, g5⟩ := arr2_good (u := u) (w := arrW W u fin1) ok1 can1 ⟨by (first | lia | omega), fun h => by rw [e6]; (first | lia | omega)⟩
  have h2n : (arr2 u (arrW W u fin1) S1).n = S.n := by rw [← e1]; unfold arr2; split <;> rfl
  have h2o : (arr2 u (arrW W u fin1) S1).over = S.over := by rw [← e2]; unfold arr2; split <;> rfl
  have h2d : (arr2 u (arrW W u fin1) S1).rd = S.rd := by rw [← e3]; unfold arr2; split <;> rfl
  have h2r : (arr2 u (arrW W u fin1) S1).ring = S.ring := by rw [← e4]; unfold arr2; split <;> rfl
  have h2b : (arr2 u (arrW W u fin1) S1).bs = S.bs := by rw [← e5]; unfold arr2; split <;> rfl
  have h2m : (arr2 u (arrW W u fin1) S1).room = S.room := by rw [← e6]; unfold arr2; split <;> rfl
  have h2u : (arr2 u (arrW W u fin1) S1).urg = S.urg := by rw [← e7]; unfold arr2; split <;> rfl
  have h2f : (arr2 u (arrW W u fin1) S1).fin = fin1 := by rw [← hfin]; unfold arr2; split <;> rfl
  have h1r := ok1.ring
  have h1f := ok1.fin
  have h1u := ok1.urg
  rw [e4] at h1r
  rw [e1, hfin] at h1f
  rw [e7] at h1u
  rw [e1] at g1 g3 g5
  rw [e2] at g4 g5
  rw [e6] at g1
  -- the parts that stand then
  have hkI : ∀ x, S.n ≤ x → S.over = false → (Keys kvs' x ↔ InI (arr2 u (arrW W u fin1) S1).I x) := fun x hx ho => by
    rw [A.keys, g5, hparts, J.keys]
    have hWx : u ≤ x → (x < arrW W u fin1 ↔ x < W ∧ ∀ f, fin1 = some f → x < f) := fun hux => by
      unfold arrW
      cases fin1 with
      | none => exact ⟨fun h => ⟨h, fun f e => nomatch e⟩, fun h => h.1⟩
      | some f =>
        refine ⟨fun h => ?_, fun h => Int.lt_of_lt_of_le (Int.lt_min.mpr ⟨h.1, h.2 f rfl⟩) (Int.le_max_right _ _)⟩
        have h' := Int.lt_min.mp (max_right h hux)
        exact ⟨h'.1, fun f' e => by cases e; exact h'.2⟩
    constructor
    · rintro ⟨h | h, hl⟩
      · rcases h with h | h
        · (first | lia | omega)
        · exact .inl ⟨h, hl⟩
      · have := (hWx h.1).mpr ⟨h.2.1, hl⟩
        exact .inr ⟨ho, Int.max_le.mpr ⟨hx, h.1⟩, Int.lt_of_lt_of_le this (Int.le_max_right _ _)⟩
    · rintro (⟨h, hl⟩ | ⟨_, h1, h2⟩)
      · exact ⟨.inl (.inr h), hl⟩
      · have hux := Int.le_trans (Int.le_max_right _ _) h1
        have := (hWx hux).mp (max_right h2 hx)
        exact ⟨.inr ⟨hux, this.1, hx⟩, this.2⟩
  generalize hS2 : arr2 u (arrW W u fin1) S1 = S2 at *
  clear hS2
  unfold gathS
  cases ho : S.over with
  | true =>
    have o2 : S2.over = true := h2o.trans ho
    have eE : gathE S2 = S.n := by unfold gathE; rw [if_pos o2, h2n]
    have hI := (J.good.over ho).1
    have ef := hovf ho
    have hI2 : ∀ x, ¬ InI S2.I x := fun x h => by
      rcases (g5 x).mp h with h | h
      · have := ((hparts x).mp h).1
        rw [hI] at this
        exact InI_nil this
      · rw [ho] at h; exact nomatch h.1
    have hea := A.over ho
    have hIn : S2.I = [] := by
      cases hc : S2.I with
      | nil => rfl
      | cons p r =>
        have := g1 p (by rw [hc]; exact .head _)
        exact absurd ⟨p, by rw [hc]; exact .head _, Int.le_refl _, this.2.1⟩ (hI2 p.1)
    rw [eE, o2, if_pos rfl]
    refine ⟨by rw [hea], hea.symm, by rw [Bool.true_or, Bool.true_or], h2f, h2d, h2r, h2b, h2m, ⟨⟨?_, ?_, ?_, ?_, ?_, ?_, ?_, ?_, ?_⟩, ?_, ?_, ?_, ?_, fun u e => by have := J.ahead u e; dsimp only; rw [h2d]; exact this⟩⟩
    · rw [h2r]; exact h1r
    · rw [h2m]; exact hr
    · dsimp only; rw [h2d]; exact hd
    · dsimp only; rw [h2m]; exact hn
    · dsimp only; rw [h2f]; exact h1f
    · dsimp only; rw [h2u]; exact h1u
    · dsimp only; rw [hIn]; exact fun _ h => nomatch h
    · dsimp only; rw [hIn]; exact Nat.zero_le _
    · intro _; dsimp only; exact ⟨hIn, h2f.trans ef⟩
    · dsimp only; rw [hIn]; exact True.intro
    · intro x
      dsimp only
      rw [hIn, A.keys, J.keys, hI]
      constructor
      · rintro ⟨h | h, hl⟩
        · exact h.imp_right fun h => (InI_nil h).elim
        · have := hl _ ef; (first | lia | omega)
      · rintro (h | h)
        · exact ⟨.inl (.inl h), fun f e => by rw [ef] at e; cases e; exact h.2⟩
        · exact (InI_nil h).elim
    · intro f e x h; dsimp only at h; exact absurd h (hI2 x)
    · exact h2u.trans J.urg
  | false =>
    have o2 : S2.over = false := h2o.trans ho
    have eE : gathE S2 = takeE S.n S2.I := by unfold gathE; rw [o2, h2n]; rfl
    obtain ⟨t1, t2, t3, t4, t5⟩ := take_law g3
    have hea : a = takeE S.n S2.I := by
      rcases Int.lt_trichotomy a (takeE S.n S2.I) with h | h | h
      · exact absurd ((hkI a A.ge ho).mpr ((t5 a).mpr (.inl ⟨A.ge, h⟩))) (A.stop ho)
      · exact h
      · have h6 := (hkI _ t1 ho).mp (A.run _ t1 h)
        rcases (t5 _).mp h6 with h7 | h7
        · (first | lia | omega)
        · have := t2.gt h7; (first | lia | omega)
    have hroom : takeE S.n S2.I ≤ S.room := by
      rcases t4 with h | ⟨p, hp, h⟩
      · (first | lia | omega)
      · have := g1 p hp; (first | lia | omega)
    have hp' : ∀ p ∈ takeI S.n S2.I, p.2 ≤ S.room := fun p hp => (g1 p (t3 p hp)).2.2
    have hlim : ∀ f, fin1 = some f → ∀ x, S.n ≤ x → InI S2.I x → x < f := fun f e x hx h => ((A.keys x).mp ((hkI x hx ho).mpr h)).2 f e
    have hfin' : ∀ f, fin1 = some f → takeE S.n S2.I ≤ f := fun f e => by
      have h7 := (h1f f e).1
      by_cases c : takeE S.n S2.I = S.n
      · (first | lia | omega)
      · have := hlim f e (takeE S.n S2.I - 1) (by (first | lia | omega)) ((t5 _).mpr (.inl ⟨by (first | lia | omega), by (first | lia | omega)⟩))
        (first | lia | omega)
    rw [eE, o2, if_neg (by decide), ← hea, Bool.false_or, Bool.false_or, h2f, h2n]
    rw [← hea] at hroom hfin' t2 t5
    refine ⟨rfl, rfl, rfl, rfl, h2d, h2r, h2b, h2m, ⟨⟨?_, ?_, ?_, ?_, ?_, ?_, ?_, ?_, ?_⟩, t2, ?_, ?_, h2u.trans J.urg, fun u e => by have := J.ahead u e; dsimp only; rw [h2d]; exact this⟩⟩
    · rw [h2r]; exact h1r
    · rw [h2m]; exact hr
    · have := A.ge; dsimp only; rw [h2d]; (first | lia | omega)
    · dsimp only; rw [h2m]; exact hroom
    · exact fun f e => ⟨hfin' f e, (h1f f e).2⟩
    · dsimp only; rw [h2u]; exact h1u
    · dsimp only; rw [h2m]; exact can_parts t2 hp'
    · have := A.ge; exact can_len t2 (by (first | lia | omega)) hp'
    · intro hov
      dsimp only at hov ⊢
      have ef := of_decide_eq_true hov
      refine ⟨?_, ef⟩
      cases hc : takeI S.n S2.I with
      | nil => rfl
      | cons p r =>
        have h7 := t2.mem p (by rw [hc]; exact .head _)
        have h8 : InI (takeI S.n S2.I) p.1 := ⟨p, by rw [hc]; exact .head _, Int.le_refl _, h7.2⟩
        have h9 := A.ge
        have := hlim a ef p.1 (by (first | lia | omega)) ((t5 _).mpr (.inr h8))
        (first | lia | omega)
    · intro x
      dsimp only
      have h9 := A.ge
      by_cases hx : S.n ≤ x
      · rw [hkI x hx ho, t5]
        exact or_congr_left ⟨fun h => ⟨by (first | lia | omega), h.2⟩, fun h => ⟨hx, h.2⟩⟩
      · constructor
        · intro h
          have h8 := ((A.keys x).mp h).1
          rw [J.keys] at h8
          rcases h8 with (h8 | h8) | h8
          · exact .inl ⟨h8.1, by (first | lia | omega)⟩
          · have := ini_room J.good h8; (first | lia | omega)
          · (first | lia | omega)
        · rintro (h | h)
          · refine (A.keys x).mpr ⟨.inl ((J.keys x).mpr (.inl ⟨h.1, by (first | lia | omega)⟩)), fun f e => ?_⟩
            have := (h1f f e).1
            (first | lia | omega)
          · have := t2.gt h; (first | lia | omega)
    · intro f e x h
      dsimp only at e h
      have h9 := A.ge
      have := t2.gt h
      exact hlim f e x (by (first | lia | omega)) ((t5 x).mpr (.inr h))

theorem anew_27c : True := by w_top off; trivial
noncomputable def urgB (p rd : Int) (bu : Option Int) : Option Int := if (∀ u, bu = some u → u < p) ∧ rd < p then some p else bu
noncomputable def dropB (rd : Int) : Option Int → Option Int
  | none => none
  | some u => if u ≤ rd then none else some u
theorem leftV_tell {S : RS} {bu : Option Int} (h : S.urg = bu) : leftV S = tellV S.rd bu := by
  subst h
  unfold leftV tellV
  cases S.urg <;> rfl
theorem leftS_same {S : RS} {kvs : List (Int × Value)} {bu : Option Int} (J : Inv S kvs bu) : leftS S = S := by
  unfold leftS
  rw [if_neg]
  rintro ⟨u, h1, h2⟩
  rw [J.urg] at h1
  have := J.ahead u h1
  (first | lia | omega)
theorem urg_law {S : RS} {kvs : List (Int × Value)} {bu : Option Int} {p : Int} (J : Inv S kvs bu) (hp : p ≤ 40) : Inv (urgS p S) kvs (urgB p S.rd bu) ∧ (urgS p S).n = S.n ∧ (urgS p S).rd = S.rd ∧ (urgS p S).over = S.over ∧ (urgS p S).fin = S.fin ∧ (urgS p S).ring = S.ring ∧ (urgS p S).bs = S.bs ∧ (urgS p S).room = S.room := by
  have hd := J.good.rd
  unfold urgS urgB
  rw [J.urg]
  by_cases c : (∀ u, bu = some u → u < p) ∧ S.rd < p
  · rw [if_pos c, if_pos c]
    refine ⟨⟨⟨J.good.ring, J.good.room, J.good.rd, J.good.n, J.good.fin, fun u hu => ?_, J.good.parts, J.good.len, J.good.over⟩, J.can, J.keys, J.lim, rfl, fun u hu => ?_⟩, rfl, rfl, rfl, rfl, rfl, rfl, rfl⟩
    · cases Option.mem_some.mp hu; have := c.2; (first | lia | omega)
    · cases hu; exact ⟨c.2, hp⟩
  · rw [if_neg c, if_neg c]
    exact ⟨J, rfl, rfl, rfl, rfl, rfl, rfl, rfl⟩
theorem readS_ok {S : RS} {k : Int} (ok : ROk S) (hk : 0 ≤ k) : ROk (readS k S) := by
  have h3 := ok.rd
  exact ⟨ok.ring, ok.room, show 0 ≤ min S.n (S.rd + k) ∧ min S.n (S.rd + k) ≤ S.n by (first | lia | omega), ok.n, ok.fin, ok.urg, ok.parts, ok.len, ok.over⟩
theorem readS_zero {S : RS} (ok : ROk S) : readS 0 S = S := by
  have h3 := ok.rd
  unfold readS
  rw [show min S.n (S.rd + 0) = S.rd by (first | lia | omega)]
theorem tell_drop {rd : Int} {bu : Option Int} : tellV rd (dropB rd bu) = tellV rd bu := by
  cases bu with
  | none => rfl
  | some u =>
    show tellV rd (if u ≤ rd then none else some u) = _
    by_cases c : u ≤ rd
    · rw [if_pos c]; show (0 : Int) = max 0 (u - rd); (first | lia | omega)
    · rw [if_neg c]
/-- behind the read and the second look -/
theorem read_law {S : RS} {kvs : List (Int × Value)} {bu : Option Int} {k : Int} (J : Inv S kvs bu) (hk : 0 ≤ k) : Inv (leftS (readS k S)) kvs (dropB (readS k S).rd bu) ∧ (leftS (readS k S)).n = S.n ∧ (leftS (readS k S)).rd = (readS k S).rd ∧
    (leftS (readS k S)).over = S.over ∧ (leftS (readS k S)).fin = S.fin ∧ (leftS (readS k S)).ring = S.ring ∧ (leftS (readS k S)).bs = S.bs ∧ (leftS (readS k S)).room = S.room := by
  have ok := readS_ok J.good hk
  have hu : (readS k S).urg = bu := J.urg
  unfold leftS
  by_cases c : ∃ u, (readS k S).urg = some u ∧ u ≤ (readS k S).rd
  · rw [if_pos c]
    obtain ⟨u, h1, h2⟩ := c
    rw [hu] at h1
    subst h1
    have e : dropB (readS k S).rd (some u) = none := if_pos h2
    rw [e]
    exact ⟨⟨⟨ok.ring, ok.room, ok.rd, ok.n, ok.fin, fun u hu => (nomatch hu), ok.parts, ok.len, ok.over⟩, J.can, J.keys, J.lim, rfl, fun u hu => (nomatch hu)⟩, rfl, rfl, rfl, rfl, rfl, rfl, rfl⟩
  · rw [if_neg c]
    have e : dropB (readS k S).rd bu = bu := by
      cases bu with
      | none => rfl
      | some u => exact if_neg fun h => c ⟨u, hu, h⟩
    rw [e]
    refine ⟨⟨ok, J.can, J.keys, J.lim, hu, fun u h => ⟨?_, (J.ahead u h).2⟩⟩, rfl, rfl, rfl, rfl, rfl, rfl, rfl⟩
    exact Int.not_le.mp fun h' => c ⟨u, hu.trans h, h'⟩
theorem inv_init {ring bs room : Int} (h1 : 256 ≤ ring) (h2 : 8 ≤ room ∧ room ≤ 20) : Inv (initS ring bs room) [] none := by
  refine ⟨⟨h1, h2, ⟨Int.le_refl _, Int.le_refl _⟩, by show (0 : Int) ≤ room; (first | lia | omega), fun f h => (nomatch h), fun f h => (nomatch h), fun p h => (nomatch h), Nat.zero_le _, fun h => (nomatch h)⟩, True.intro, fun x => ⟨fun ⟨v, h⟩ => (nomatch h), fun h => ?_⟩, fun f h => (nomatch h), rfl, fun u h => (nomatch h)⟩
  rcases h with ⟨h1, h2⟩ | h
  · exact absurd h2 (by show ¬ x < 0; (first | lia | omega))
  · exact (InI_nil h).elim

theorem anew_27d : True := by w_top off; trivial
/-- how a turn of the law's own loop ends -/
noncomputable def TurnC (h₀ : Heap) (L : Addr) (s : Shared) (I : Addr) (oI : Obj) (J : (Str → Option Value) → Led → Prop) (R : Result → Shared → Prop) (f : Flow) (s₃ : Shared) : Prop :=
  match f with
  | .ret v => R (.ok (.ret v)) s₃
  | .brk => R (.ok .next) s₃
  | _ => ∃ h' tk' m' nx, s₃ = { s with heap := h', toks := tk' } ∧ Fr h₀ L h' m' ∧ News h₀ L h' ((I, oI) :: nx) ∧ (∀ q ∈ nx, q.1 ≠ I) ∧ J m' nx
section
variable {prog : Program} {w : World} {A : Around} {E : Value → Shared → Prop} {s : Shared} {env : Env} {h₀ : Heap} {x : Str} {px : Pos} {body : List Stmt} {R : Result → Shared → Prop}
theorem codeC_range {I : Addr} {a₀ : Int} {n : Nat} {m₀ : Str → Option Value} {news : Led} (J : Nat → (Str → Option Value) → Led → Prop) (hh : A.handled = none) (hx : env.kindOf x = some .local)
    (hp : (env.scope.kind == .class || (env.scope.kind == .module && env.locals != env.globals)) = false) (hLI : env.locals ≠ I) (hI₀ : h₀.get? I = none) (hnw : ∀ q ∈ news, q.1 ≠ I)
    (hst : IsRangeIter s.heap I a₀ n 1) (F : Fr h₀ env.locals s.heap m₀) (N : News h₀ env.locals s.heap news) (hj : J 0 m₀ news)
    (turn : ∀ (i : Nat) t m₁ nx h tk oI, i < n → (∀ q ∈ nx, q.1 ≠ I) → J i m₁ nx → Fr h₀ env.locals h (fun y => if y = x then some (.int (a₀ + (i : Int)) t) else m₁ y) → News h₀ env.locals h ((I, oI) :: nx) → (∀ u v, oI ≠ tup2 u v) →
      ∀ Qz, (∀ f s₃, TurnC h₀ env.locals s I oI (J (i + 1)) R f s₃ → EndOf Qz f s₃) → wpC (model prog w) A (execs body env) (EndOf Qz) noE { s with heap := h, toks := tk })
    (done : ∀ m₁ nx h tk, J n m₁ nx → Fr h₀ env.locals h m₁ → News h₀ env.locals h nx → R (.ok .next) { s with heap := h, toks := tk }) :
    codeC (model prog w) A (.forLoop (.Name x px) (.ref I) body [] env) R s := by
  have W : Walks prog w A I [I] [I] n (fun i v => i < n ∧ ∃ t, v = .int (a₀ + i * 1) t) (fun i h => IsRangeIter h I (a₀ + (i : Nat) * 1) ((n : Int) - (i : Nat)) 1) := (Walks.range hh I a₀ 1 n).bound
  refine codeC_for (fun k s' => ∃ h' tk m' nx, ∃ i : Nat, s' = { s with heap := h', toks := tk } ∧ IsRangeIter h' I (a₀ + (i : Nat) * 1) ((n : Int) - (i : Nat)) 1 ∧ Fr h₀ env.locals h' m' ∧ News h₀ env.locals h' nx ∧ (∀ q ∈ nx, q.1 ≠ I) ∧ J i m' nx ∧ i ≤ n ∧ k = n + 1 - i) ?_ (n + 1) s
    ⟨s.heap, s.toks, m₀, news, 0, rfl, by simpa using hst, F, N, hnw, hj, Nat.zero_le _, rfl⟩
  rintro k s' ⟨h', tk, m', nx, i, rfl, hst', F', N', hnw', hJ, hi, rfl⟩
  have next : ∀ h₁ : Heap, (∀ b o, b ∉ [I] → h'.get? b = some o → h₁.get? b = some o) → Fr h₀ env.locals h₁ m' ∧ News h₀ env.locals h₁ nx := fun h₁ hk₁ =>
    ⟨LCg.fr_but F' hk₁ hLI hI₀, LCg.news_but N' hk₁ hnw'⟩
  by_cases hlt : i < n
  · refine W.item i _ _ _ hlt hst' fun v h₁ tk₁ hP hst₁ hk₁ => ?_
    obtain ⟨F₁, N₁⟩ := next h₁ hk₁
    obtain ⟨_, t, rfl⟩ := hP
    rw [Int.mul_one]
    show wpAny _ _ (pure ()) _ _ _
    refine wpAny_pure ?_
    refine wpAny_assign_Name (wpAny_storeName_local hx F₁.ns (fun h₂ hn₂ hs₂ => ?_) hp)
    have F₂ := F₁.set hn₂ hs₂
    have hI2 : h₂.get? I = h₁.get? I := hs₂.2 I (Ne.symm hLI)
    have hst₂ : IsRangeIter h₂ I (a₀ + ((i + 1 : Nat) : Int) * 1) ((n : Int) - ((i + 1 : Nat) : Int)) 1 := hI2.trans hst₁
    have N₂ : News h₀ env.locals h₂ nx := N₁.set hs₂
    refine wpC_mono (turn i t m' nx h₂ _ { cls := .type "range_iterator", dict := none, data := .fields #[rawInt (a₀ + ((i + 1 : Nat) : Int) * 1), rawInt ((n : Int) - ((i + 1 : Nat) : Int)), rawInt 1], slots := #[] } hlt hnw' hJ F₂ (fun p hp => ?_) (fun u v e => by injection e with e1; exact absurd (Value.type.inj e1) (by decide)) _ fun _ _ x => x) (fun f s₃ h₃ => ?_) fun _ _ e => e
    · rcases List.mem_cons.mp hp with rfl | hp
      · exact ⟨hst₂, Ne.symm hLI, hI₀⟩
      · exact N₂ p hp
    · cases f with
      | ret v => exact h₃
      | brk => exact h₃
      | next =>
        obtain ⟨h₃', tk₃, m₂, nx₂, rfl, F₃, N₃, ha₃, hJ₃⟩ := h₃
        exact ⟨n + 1 - (i + 1), by (first | lia | omega), h₃', tk₃, m₂, nx₂, i + 1, rfl, (N₃ _ (.head _)).1, F₃, fun p hp => N₃ p (.tail _ hp), ha₃, hJ₃, hlt, rfl⟩
      | cont =>
        obtain ⟨h₃', tk₃, m₂, nx₂, rfl, F₃, N₃, ha₃, hJ₃⟩ := h₃
        exact ⟨n + 1 - (i + 1), by (first | lia | omega), h₃', tk₃, m₂, nx₂, i + 1, rfl, (N₃ _ (.head _)).1, F₃, fun p hp => N₃ p (.tail _ hp), ha₃, hJ₃, hlt, rfl⟩
  · have hin : i = n := by (first | lia | omega)
    subst hin
    refine W.done _ _ _ hst' fun h₁ tk₁ hk₁ => ?_
    obtain ⟨F₁, N₁⟩ := next h₁ hk₁
    exact done m' nx h₁ tk₁ hJ F₁ N₁
theorem for_rangeC {r : Addr} {b₀ : Int} {t₀ u₀ v₀ : Tok} {m₀ : Str → Option Value} {news : Led} (J : Nat → (Str → Option Value) → Led → Prop) (hr : IsRange s.heap r 0 b₀ 1 t₀ u₀ v₀) (hb : 0 ≤ b₀ ∧ b₀ ≤ 100)
    (F : Fr h₀ env.locals s.heap m₀) (N : News h₀ env.locals s.heap news) (hj : J 0 m₀ news)
    (turn : ∀ (i : Nat) t m₁ nx h tk I oI, i < b₀.toNat → (∀ q ∈ nx, q.1 ≠ I) → J i m₁ nx → Fr h₀ env.locals h (fun y => if y = x then some (.int (0 + (i : Int)) t) else m₁ y) → News h₀ env.locals h ((I, oI) :: nx) → (∀ u v, oI ≠ tup2 u v) →
      ∀ Qz, (∀ f s₃, TurnC h₀ env.locals s I oI (J (i + 1)) R f s₃ → EndOf Qz f s₃) → wpC (model prog w) A (execs body env) (EndOf Qz) noE { s with heap := h, toks := tk })
    (done : ∀ m₁ nx h tk, J b₀.toNat m₁ nx → Fr h₀ env.locals h m₁ → News h₀ env.locals h nx → R (.ok .next) { s with heap := h, toks := tk })
    (hh : A.handled = none) (hx : env.kindOf x = some .local) (hp : (env.scope.kind == .class || (env.scope.kind == .module && env.locals != env.globals)) = false) :
    wpAny (model prog w) A (pyIter (.ref r)) (fun it s₂ => codeC (model prog w) A (.forLoop (.Name x px) it body [] env) R s₂) E s := by
  have hsz : Builtin.Range.rangeSize 0 b₀ 1 = (b₀.toNat : Int) := by rw [rangeSize_nat, Int.sub_zero]
  refine wpAny_pyIter_range hr (small_one (by (first | lia | omega)) (by (first | lia | omega)) (by (first | lia | omega)) (by (first | lia | omega))) ?_
  refine codeC_range (a₀ := 0) (n := b₀.toNat) J hh hx hp (fun e => absurd F.ns.lt (e ▸ Nat.lt_irrefl _)) (next_is_new F) (fun p hp => Nat.ne_of_lt (Heap.lt_size (N p hp).1)) ?_ (F.push _) (fun p hp => ⟨Heap.get?_push_of_some _ (N p hp).1, (N p hp).2⟩) hj (fun i t m₁ nx h tk oI => turn i t m₁ nx h tk _ oI) done
  show IsRangeIter _ _ _ _ _
  rw [hsz]
  simpa using Heap.get?_push_size _ rfl
end

theorem anew_27e : True := by w_top off; trivial
section
variable {prog : Program} {w : World} {A : Around} {R : Result → Shared → Prop} {s : Shared}
/-- a def of the top with cells, called at clean stacks -/
theorem call_cellsC {name : Str} {params : Arguments} {body : List Stmt} {scope : Scope} {pm cd doc : Value} {a : Addr} {o : Obj} {args : List Value} {binds : List (Str × Value)}
    (hroom : A.depth < recursionLimit) (ho : s.heap.get? a = some o) (hdata : o.data = .func (Calls.docDef name params body scope pm cd doc)) (hlim : s.heap.NoLimit) (hcd : s.heap.CodeRec cd name)
    (hbind : bindArgs (Calls.docDef name params body scope pm cd doc) ⟨args, []⟩ = pure binds)
    (hkind : ∀ x ∈ binds, scope.names.lookup x.1 = some .local ∨ (scope.names.lookup x.1 = some .cell ∧ ((cellsFrom (s.heap.objs.size + 1) scope.names []).lookup x.1).isSome = true))
    (hnd : ((cellsFrom 0 scope.names []).map (·.1)).Nodup)
    (h : ∀ h₁ tk cells, Fr s.heap s.heap.objs.size h₁ (bindL (envOfC name scope s.heap.objs.size a cd).kindOf binds fun _ => none) → News s.heap s.heap.objs.size h₁ cells →
      CellsAre (bindC (envOfC name scope s.heap.objs.size a cd).kindOf binds fun _ => none) (cellsFrom (s.heap.objs.size + 1) scope.names []) cells →
      wpC (model prog w) (A.deeper (envOfC name scope s.heap.objs.size a cd)) (execs body (envOfC name scope s.heap.objs.size a cd))
        (fun f s' => R (.ok (.ret (match f with | .ret v => v | _ => .none))) s')
        (fun e s' => wpAny (model prog w) (A.deeper (envOfC name scope s.heap.objs.size a cd)) (leaving (envOfC name scope s.heap.objs.size a cd) e)
          (fun _ s'' => R (.error e) s'') (fun e' s'' => R (.error e') s'') s')
        { s with heap := h₁, toks := tk })
    (hco : scope.isCoroutine = false := by rfl) (hgen : scope.isGenerator = false := by rfl) (hk : scope.kind = .function := by rfl) :
    codeC (model prog w) A (.call (.ref a) ⟨args, []⟩) R s := by
  refine codeC_call (fd := Calls.docDef name params body scope pm cd doc) (body := body) hroom ho hdata hco hgen rfl hcd ?_
  rw [hbind]
  refine wpAny_pure (wpAny_newFunctionEnv_cells hk hkind fun env he s' x => ?_)
  subst he
  obtain ⟨h₁, tk, rfl, _⟩ := x.done
  obtain ⟨cells, N, Y⟩ := Cl.news (h₀ := s.heap) (Nat.le_refl _) fun n c hm => ⟨x.cell n c (lookup_of_mem_nodup (cellsFrom_names scope.names 0 (s.heap.objs.size + 1) [] [] rfl ▸ hnd) hm), x.above n c hm⟩
  exact ⟨hlim.keeps x.toInCall.keep, codeC_func (h h₁ tk cells ⟨x.toInCall.ns, x.toInCall.keep, x.toInCall.fresh⟩ N Y)⟩
end
theorem enter_callC {M : Model} {A : Around} {s : Shared} {f : Value} {pos : List Value} {c : ClaimW} {cl : Str → Option Addr} {mean : ExcName → Option Value} {args : List WData} {s₁ : Shared}
    (h : codeC M A (.call f ⟨pos, []⟩) (GoodWG c cl mean args s₁) s) : wpC M A (PySem.call f pos) (fun v s' => GoodWG c cl mean args s₁ (.ok (.ret v)) s') (fun e s' => GoodWG c cl mean args s₁ (.error e) s') s :=
  wpC_call (codeC_mono h fun res s' g => by rcases g.1 with ⟨v, _, _, rfl, _⟩ | ⟨e, _, _, rfl, _⟩ <;> exact g)

theorem anew_28 : True := by w_top off; trivial
theorem say_28_1 : True := by
  k_with "exec Expr" => ((k_here; (fail_if_success (rename (_, instObj 275 _) ∈ _ => zz9Z)); refine stop_ ?_))
  trivial
theorem say_28_2 : True := by
  k_with "call ref" => ((k_here; (with_reducible show wpAny _ _ (call (Value.ref 305) _) _ _ _); refine stop_ ?_))
  trivial
theorem say_28_3 : True := by
  k_with "call ref" => ((k_here; (with_reducible show wpAny _ _ (call (Value.ref 312) _) _ _ _); refine stop_ ?_))
  trivial
theorem say_28_4 : True := by
  k_with "call ref" => ((k_here; (with_reducible show wpAny _ _ (call (Value.ref 317) _) _ _ _); refine stop_ ?_))
  trivial
theorem say_28_5 : True := by
  k_with "call ref" => ((k_here; (with_reducible show wpAny _ _ (call (Value.ref 265) _) _ _ _); refine stop_ ?_))
  trivial
theorem say_28_6 : True := by
  k_with "call ref" => ((k_here; (with_reducible show wpAny _ _ (call (Value.ref 244) _) _ _ _); refine stop_ ?_))
  trivial
/-- behind the first statement: the source stands -/
inductive LawJ1 (cb : Addr) (oB : Obj) (m : Str → Option Value) (nx : Led) : Prop
  | mk : ∀ src sl a b ta tb n1 n2 vs, nx = [(src, srcO a b ta tb sl n1), (sl, rowO vs n2), (cb, oB)] →
    src ≠ sl →
    src ≠ cb →
    sl ≠ cb →
    SrcOk a b vs →
    (∀ p ∈ [(("source" : Str), Value.ref src)], m p.1 = some p.2) → LawJ1 cb oB m nx
inductive LawJ2 (cb src sl : Addr) (oB : Obj) (m : Str → Option Value) (nx : Led) : Prop
  | mk : ∀ a b ta tb n1 n2 vs ring tr, nx = [(src, srcO a b ta tb sl n1), (sl, rowO vs n2), (cb, oB)] →
    SrcOk a b vs →
    256 ≤ ring →
    (∀ p ∈ [(("ring" : Str), Value.int ring tr), ("source", .ref src)], m p.1 = some p.2) → LawJ2 cb src sl oB m nx
inductive LawJ3 (cb src sl : Addr) (oB : Obj) (ring : Int) (tr : Tok) (m : Str → Option Value) (nx : Led) : Prop
  | mk : ∀ a b ta tb n1 n2 vs irs ti room tm, nx = [(src, srcO a b ta tb sl n1), (sl, rowO vs n2), (cb, oB)] →
    SrcOk a b vs →
    (8 ≤ room ∧ room ≤ 20) →
    (∀ p ∈ [(("room" : Str), Value.int room tm), ("irs", .int irs ti), ("ring", .int ring tr), ("source", .ref src)], m p.1 = some p.2) → LawJ3 cb src sl oB ring tr m nx
theorem news3 {h₀ h : Heap} {L : Addr} {nx : Led} {a b c : Addr × Obj} (N : News h₀ L h nx) (h1 : a ∈ nx) (h2 : b ∈ nx) (h3 : c ∈ nx) : News h₀ L h [a, b, c] := fun p hp => by
  rcases List.mem_cons.mp hp with rfl | hp
  · exact N _ h1
  rcases List.mem_cons.mp hp with rfl | hp
  · exact N _ h2
  rcases List.mem_cons.mp hp with rfl | hp
  · exact N _ h3
  · exact nomatch hp
theorem wpC_cutC {prog : Program} {w : World} {A : Around} {E : Value → Shared → Prop} {s : Shared} {env : Env} {h₀ : Heap} {L : Addr} {Q : Flow → Shared → Prop} {st : Stmt} {rest : List Stmt} {m : Str → Option Value} (FrU : Fr h₀ L s.heap m) (J : (Str → Option Value) → Led → Prop) (h1 : ∀ Qz, (∀ f s', CutEnd h₀ L s J Q f s' → EndOf Qz f s') → wpC (model prog w) A (exec st env) (EndOf Qz) E s)
    (h2 : ∀ h' tk' m' nx, Fr h₀ L h' m' → News h₀ L h' nx → J m' nx → wpC (model prog w) A (execs rest env) Q E { s with heap := h', toks := tk' }) : wpC (model prog w) A (execs (st :: rest) env) Q E s := by
  refine wpC_cons (wpC_mono (h1 _ fun _ _ x => x) (fun f s' h => ?_) fun _ _ x => x)
  cases f with
  | next =>
    obtain ⟨h', tk', m', nx, rfl, F, N, j⟩ := h
    exact h2 h' tk' m' nx F N j
  | _ => exact h
inductive LawJ4 (w : World) (R : Led) (src : Addr) (ring : Int) (tr : Tok) (room : Int) (tm : Tok) (m : Str → Option Value) (nx : Led) : Prop
  | mk : ∀ P r bs tb, nx = R ++ P →
    Recv w r (initS ring bs room) P →
    Apart R P →
    (∀ p ∈ [(("receiver" : Str), Value.ref r), ("base", .int bs tb), ("room", .int room tm), ("ring", .int ring tr), ("source", .ref src)], m p.1 = some p.2) → LawJ4 w R src ring tr room tm m nx
inductive LawJ5 (w : World) (R : Led) (src r : Addr) (S : RS) (P : Led) (ring bs room : Int) (tr tb tm : Tok) (m : Str → Option Value) (nx : Led) : Prop
  | mk : ∀ ts, nx = R ++ P →
    (∀ p ∈ [(("stream" : Str), Value.bytes (octs 0 60) ts), ("receiver", .ref r), ("base", .int bs tb), ("room", .int room tm), ("ring", .int ring tr), ("source", .ref src)], m p.1 = some p.2) → LawJ5 w R src r S P ring bs room tr tb tm m nx
/-- the law's own state between two statements -/
structure LawS (w : World) (src sl bk kd cb r : Addr) (P : Led) (S : RS) (kvs : List (Int × Value)) (bu : Option Int) (ob ok : Obj) (fv uv : Value) (t1 t2 t3 : Tok) (a b : Int) (vs : List Value) (ring bs room : Int) (len : Nat) : Prop where
  inv : Inv S kvs bu
  eR : S.ring = ring
  eB : S.bs = bs
  eM : S.room = room
  hob : ob.IsDictOf (PySem.strKind PRG w) (bookKV S.n S.rd S.room kd fv uv S.over t1 t2 t3)
  hok : ok.IsDictOf (PySem.intKind PRG w) kvs
  known : KnownIs kvs
  hfv : OptV fv S.fin
  huv : OptV uv bu
  hlen : kvs.length ≤ len
  lo : (kd == sysModules) = false
  recv : Recv w r S P
  hsrc : SrcOk a b vs
  k1 : src ≠ kd
  k2 : sl ≠ kd
  k3 : bk ≠ kd
  k4 : kd ≠ cb
  p1 : ∀ p ∈ P, p.1 ≠ src
  p2 : ∀ p ∈ P, p.1 ≠ sl
  p3 : ∀ p ∈ P, p.1 ≠ bk
  p4 : ∀ p ∈ P, p.1 ≠ kd
  p5 : ∀ p ∈ P, p.1 ≠ cb
theorem LawS.urg1 {w : World} {src sl bk kd cb r : Addr} {P P' : Led} {S : RS} {kvs : List (Int × Value)} {bu : Option Int} {ob ob' ok : Obj} {fv uv : Value} {t1 t2 t3 t : Tok} {a b a' b' : Int} {vs vs' : List Value} {ring bs room p : Int} {len : Nat}
    (Z : LawS w src sl bk kd cb r P S kvs bu ob ok fv uv t1 t2 t3 a b vs ring bs room len) (hp : p ≤ 40) (c : (∀ u, bu = some u → u < p) ∧ S.rd < p) (H' : Recv w r (urgS p S) P')
    (hd : ob'.IsDictOf (PySem.strKind PRG w) (bookKV S.n S.rd S.room kd fv (.int p t) S.over t1 t2 t3)) (so : SrcOk a' b' vs') (z5 : ∀ p ∈ P', p.1 ≠ src) (z6 : ∀ p ∈ P', p.1 ≠ sl) (z7 : ∀ p ∈ P', p.1 ≠ bk) (z8 : ∀ p ∈ P', p.1 ≠ kd) (z9 : ∀ p ∈ P', p.1 ≠ cb) :
    LawS w src sl bk kd cb r P' (urgS p S) kvs (some p) ob' ok fv (.int p t) t1 t2 t3 a' b' vs' ring bs room len := by
  obtain ⟨JU, y1, y2, y3, y4, y5, y6, y7⟩ := urg_law (p := p) Z.inv hp
  rw [show urgB p S.rd bu = some p from if_pos c] at JU
  exact ⟨JU, y5.trans Z.eR, y6.trans Z.eB, y7.trans Z.eM, by rw [y1, y2, y3, y7]; exact hd, Z.hok, Z.known, by rw [y4]; exact Z.hfv, ⟨_, rfl⟩, Z.hlen, Z.lo, H', so, Z.k1, Z.k2, Z.k3, Z.k4, z5, z6, z7, z8, z9⟩
theorem LawS.urg0 {w : World} {src sl bk kd cb r : Addr} {P P' : Led} {S : RS} {kvs : List (Int × Value)} {bu : Option Int} {ob ok : Obj} {fv uv : Value} {t1 t2 t3 : Tok} {a b a' b' : Int} {vs vs' : List Value} {ring bs room p : Int} {len : Nat}
    (Z : LawS w src sl bk kd cb r P S kvs bu ob ok fv uv t1 t2 t3 a b vs ring bs room len) (hp : p ≤ 40) (c : ¬ ((∀ u, bu = some u → u < p) ∧ S.rd < p)) (H' : Recv w r (urgS p S) P')
    (so : SrcOk a' b' vs') (z5 : ∀ p ∈ P', p.1 ≠ src) (z6 : ∀ p ∈ P', p.1 ≠ sl) (z7 : ∀ p ∈ P', p.1 ≠ bk) (z8 : ∀ p ∈ P', p.1 ≠ kd) (z9 : ∀ p ∈ P', p.1 ≠ cb) :
    LawS w src sl bk kd cb r P' (urgS p S) kvs bu ob ok fv uv t1 t2 t3 a' b' vs' ring bs room len := by
  obtain ⟨JU, y1, y2, y3, y4, y5, y6, y7⟩ := urg_law (p := p) Z.inv hp
  rw [show urgB p S.rd bu = bu from if_neg c] at JU
  exact ⟨JU, y5.trans Z.eR, y6.trans Z.eB, y7.trans Z.eM, by rw [y1, y2, y3, y7]; exact Z.hob, Z.hok, Z.known, by rw [y4]; exact Z.hfv, Z.huv, Z.hlen, Z.lo, H', so, Z.k1, Z.k2, Z.k3, Z.k4, z5, z6, z7, z8, z9⟩
/-- behind a look at the receiver nothing has turned -/
theorem LawS.same {w : World} {src sl bk kd cb r : Addr} {P P' : Led} {S : RS} {kvs : List (Int × Value)} {bu : Option Int} {ob ok : Obj} {fv uv : Value} {t1 t2 t3 : Tok} {a b a' b' : Int} {vs vs' : List Value} {ring bs room : Int} {len : Nat}
    (Z : LawS w src sl bk kd cb r P S kvs bu ob ok fv uv t1 t2 t3 a b vs ring bs room len) (H' : Recv w r (leftS S) P')
    (so : SrcOk a' b' vs') (z5 : ∀ p ∈ P', p.1 ≠ src) (z6 : ∀ p ∈ P', p.1 ≠ sl) (z7 : ∀ p ∈ P', p.1 ≠ bk) (z8 : ∀ p ∈ P', p.1 ≠ kd) (z9 : ∀ p ∈ P', p.1 ≠ cb) :
    LawS w src sl bk kd cb r P' S kvs bu ob ok fv uv t1 t2 t3 a' b' vs' ring bs room len := by
  rw [leftS_same Z.inv] at H'
  exact { Z with recv := H', hsrc := so, p1 := z5, p2 := z6, p3 := z7, p4 := z8, p5 := z9 }
inductive LawI (w : World) (src sl bk cb r : Addr) (oc : Obj) (ring bs room : Int) (tr tb tm ts : Tok) (i : Nat) (m : Str → Option Value) (nx : Led) : Prop
  | mk : ∀ kd P S kvs bu ob ok fv uv t1 t2 t3 a b ta tb' n1 n2 vs, nx = (src, srcO a b ta tb' sl n1) :: (sl, rowO vs n2) :: (bk, ob) :: (kd, ok) :: (cb, oc) :: P →
    LawS w src sl bk kd cb r P S kvs bu ob ok fv uv t1 t2 t3 a b vs ring bs room (40 * i) →
    (∀ p ∈ [(("stream" : Str), Value.bytes (octs 0 60) ts), ("receiver", .ref r), ("base", .int bs tb), ("room", .int room tm), ("ring", .int ring tr), ("source", .ref src)], m p.1 = some p.2) → LawI w src sl bk cb r oc ring bs room tr tb tm ts i m nx
inductive LawJ6 (w : World) (src sl cb r : Addr) (ring bs room : Int) (tr tb tm ts : Tok) (m : Str → Option Value) (nx : Led) : Prop
  | mk : ∀ bk oc, oc.data = .cell (some (.ref bk)) →
    src ≠ bk →
    sl ≠ bk →
    bk ≠ cb →
    LawI w src sl bk cb r oc ring bs room tr tb tm ts 0 m nx → LawJ6 w src sl cb r ring bs room tr tb tm ts m nx
/-- in a turn: the source, the rest of the ledger, the names -/
inductive TJ (src sl : Addr) (post : Led) (C : List (Str × Value) → Prop) (m : Str → Option Value) (nx : Led) : Prop
  | mk : ∀ a b ta tb n1 n2 vs names, nx = (src, srcO a b ta tb sl n1) :: (sl, rowO vs n2) :: post →
    SrcOk a b vs →
    C names →
    (∀ p ∈ names, m p.1 = some p.2) → TJ src sl post C m nx
/-- between two statements of a turn, behind 'arrive' -/
inductive TK (w : World) (src sl bk cb r I : Addr) (oc oI : Obj) (ring bs room : Int) (tr tb tm ts : Tok) (len : Nat) (m : Str → Option Value) (nx : Led) : Prop
  | mk : ∀ kd P S kvs bu ob ok fv uv t1 t2 t3 a b ta tb' n1 n2 vs, nx = (src, srcO a b ta tb' sl n1) :: (sl, rowO vs n2) :: (bk, ob) :: (kd, ok) :: (cb, oc) :: (I, oI) :: P →
    LawS w src sl bk kd cb r P S kvs bu ob ok fv uv t1 t2 t3 a b vs ring bs room len →
    kd ≠ I →
    (∀ p ∈ P, p.1 ≠ I) →
    (∀ p ∈ [(("stream" : Str), Value.bytes (octs 0 60) ts), ("receiver", .ref r), ("base", .int bs tb), ("room", .int room tm), ("ring", .int ring tr), ("source", .ref src)], m p.1 = some p.2) → TK w src sl bk cb r I oc oI ring bs room tr tb tm ts len m nx
/-- behind the reading (U: what the book's 'urgent' holds) -/
inductive TR (w : World) (src sl bk cb r I : Addr) (oc oI : Obj) (ring bs room : Int) (tr tb tm ts : Tok) (len : Nat) (U : Int → Option Int → Option Int) (m : Str → Option Value) (nx : Led) : Prop
  | mk : ∀ kd P S kvs bu ob ok fv uv t1 t2 t3 a0 b0 vs0 a b ta tb' n1 n2 vs k P' ob' uv' t2', nx = (src, srcO a b ta tb' sl n1) :: (sl, rowO vs n2) :: (bk, ob') :: (kd, ok) :: (cb, oc) :: (I, oI) :: P' →
    LawS w src sl bk kd cb r P S kvs bu ob ok fv uv t1 t2 t3 a0 b0 vs0 ring bs room len →
    0 ≤ k →
    SrcOk a b vs →
    Recv w r (readS k S) P' →
    ob'.IsDictOf (PySem.strKind PRG w) (bookKV S.n (readS k S).rd S.room kd fv uv' S.over t1 t2' t3) →
    OptV uv' (U (readS k S).rd bu) →
    OffFive src sl bk kd cb I P' →
    kd ≠ I →
    (∀ p ∈ [(("stream" : Str), Value.bytes (octs 0 60) ts), ("receiver", .ref r), ("base", .int bs tb), ("room", .int room tm), ("ring", .int ring tr), ("source", .ref src)], m p.1 = some p.2) → TR w src sl bk cb r I oc oI ring bs room tr tb tm ts len U m nx
theorem TurnC.next {h₀ : Heap} {L : Addr} {s : Shared} {I : Addr} {oI : Obj} {J : (Str → Option Value) → Led → Prop} {R : Result → Shared → Prop} {h' : Heap} {tk' : Nat} {m' : Str → Option Value} {nx : Led} (F : Fr h₀ L h' m') (N : News h₀ L h' ((I, oI) :: nx)) (ha : ∀ q ∈ nx, q.1 ≠ I) (hJ : J m' nx) :
    TurnC h₀ L s I oI J R .next { s with heap := h', toks := tk' } := ⟨h', tk', m', nx, rfl, F, N, ha, hJ⟩
theorem ring_ge {x : Int} (h : 0 ≤ x ∧ x < 2) : (256 : Int) ≤ [256, 2 ^ Int.toNat 32].getD x.toNat 0 := by
  have : x = 0 ∨ x = 1 := by (first | lia | omega)
  rcases this with rfl | rfl <;> decide
theorem big_nn {c : Int} {b : Bool} : 0 ≤ (if -1 - c > c then -1 - c else c) * if b = true then 1 else 0 := Int.mul_nonneg (by split <;> (first | lia | omega)) (by split <;> decide)
theorem blend_rng {a : Int} : 0 ≤ a.fmod 2147483647 ∧ a.fmod 2147483647 < 2147483647 := fmod_rng (by decide)
theorem intsV_nil : IntsV [] := fun _ h => nomatch h
theorem intsV_cons {i : Int} {t : Tok} {vs : List Value} (h : IntsV vs) : IntsV (.int i t :: vs) := fun v hv => by
  rcases List.mem_cons.mp hv with rfl | hv
  · exact ⟨_, _, rfl⟩
  · exact h v hv
theorem law_holds : PySem.Challenge.rw_on0345_01.Holds := hd (by
  dsimp only [hk, rowL, defL, b322, s322, p322, posL, litOf]
  k_fill
  intro w s₀ s₁ mg mb G Y fa o pm cd doc dV kV ho hd hcd hD hmg hg args vals as hpre hlay hrd hwl hlo
  have KX := kIn_of Y
  have X := (Ground.X G).1
  have V := (Ground.X G).2
  refine Ground.open G ?_
  intro T B D TE TW
  try (refine guard_noD D (by decide +kernel) ?_; clear D)
  try (obtain ⟨_, _, he, B0⟩ := based_of_top T rfl hmg ho hd; have he' : cd = _ := he; subst he'; clear he)
  clear hmg
  wrow_args hpre hlay hrd hwl hlo
  refine enter_callC ?_
  have K0 := below_caller (Top.heap T)
  have he := Dflts.none hD rfl
  subst he
  have he := Dflts.noKw hD
  subst he
  refine call_cellsC (by decide) ho (fd_plain hd) (Top.nolimit T) hcd rfl (kinds_of (by kinds_ok)) (by decide) fun h₁ tk₁ cells F N0 X0 => ?_
  rename WData.layableAll _ = true => hl2
  rename IntsAre _ _ => hI
  rename List Int => ns
  rename Heap.IsList _ _ _ => hL
  obtain ⟨oB, rfl, d1'⟩ := CellsAre.one X0
  have dB : oB.data = .cell none := d1'
  have fin : ∀ h' tk m', Fr s₁.heap s₁.heap.objs.size h' m' → GoodWG PySem.Challenge.rw_on0345_01.row.claim (classAt s₀.heap) (ExcName.means s₀.heap) [ofPy (PyData.list (List.map PyData.int ns))] s₁ (.ok (.ret (.bool true))) { s₁ with heap := h', toks := tk } := by
    intro h' tk m' F'
    refine goodWG_reads B0 F' ?_ ?_ (.bool true) unshared_nil ?_ rfl
    · show AllBare s₁.gens
      row_bare
    · exact raisesW_false (by wrow_none_raised)
    · first | rfl | exact postW_of (by wrow_shape) (by wtm_val) (by str_meet; first | done | w_fin)
  have F0 : Fr s₁.heap s₁.heap.objs.size h₁ (chain [("script", .ref _)] fun _ => none) := F
  clear F X0 d1' hcd hD ho hd X V B TE TW B0 Y G hg hl2
  with_reducible refine wpC_cut F0 (LawJ1 (s₁.heap.objs.size + 1) oB) ?_ ?_
  · --BEGIN
    intro QC9 hQC9
    k_steps
    · rename Fr _ _ _ _ => F9
      rename News _ _ _ _ => N9
      replace N9 : News _ _ _ [_, _, _, (_, rowO [_, _, _, _, _, _, _, _, _, _, _, _, _, _] 0), (s₁.heap.objs.size + 1, oB)] := N9
      rename _ < _ ∧ _ < _ ∧ _ < _ ∧ s₁.heap.objs.size + 1 < _ => l9
      rename s₁.heap.objs.size + 1 < _ => l7
      show CutEnd _ _ _ _ _ .next _
      exact .next F9 (news3 N9 (.head _) (.tail _ (.tail _ (.tail _ (.head _)))) (.tail _ (.tail _ (.tail _ (.tail _ (.head _)))))) ⟨_, _, _, _, _, _, _, _, _, rfl, Nat.ne_of_gt l9.2.2.1, Nat.ne_of_gt l9.2.2.2, Nat.ne_of_gt l7, ⟨big_nn, blend_rng, by repeat (first | exact intsV_nil | refine intsV_cons ?_), Nat.le_of_ble_eq_true rfl⟩, all2 rfl all0⟩
    · rename decide _ = false => e9
      rename _ ∨ _ => e8
      exfalso
      have := of_decide_eq_false e9
      have : ns.length ≠ 0 := fun h => this (List.length_eq_zero_iff.mp h)
      (first | lia | omega)
    · rename Fr _ _ _ _ => F9
      rename News _ _ _ _ => N9
      replace N9 : News _ _ _ [_, (_, rowO [] 0), _, _, _, (s₁.heap.objs.size + 1, oB)] := N9
      rename _ < _ ∧ _ < _ ∧ _ < _ ∧ _ < _ ∧ s₁.heap.objs.size + 1 < _ => l9
      rename _ < _ ∧ _ < _ ∧ _ < _ ∧ s₁.heap.objs.size + 1 < _ => l7
      show CutEnd _ _ _ _ _ .next _
      exact .next F9 (news3 N9 (.head _) (.tail _ (.head _)) (.tail _ (.tail _ (.tail _ (.tail _ (.tail _ (.head _))))))) ⟨_, _, _, _, _, _, _, _, _, rfl, Nat.ne_of_gt l9.1, Nat.ne_of_gt l9.2.2.2.2, Nat.ne_of_gt l7.2.2.2, ⟨big_nn, blend_rng, intsV_nil, Nat.le_of_ble_eq_true rfl⟩, all2 rfl all0⟩
    --DONE
  clear N0 hI hL F0
  intro h' tk' m' nx F1 N1 hJ
  show wpC _ _ _ _ _ { s₁ with heap := h', toks := tk' }
  obtain ⟨src, sl, a, b, ta, tb, n1, n2, vs, rfl, x1, x2, x3, ⟨ha, hb, hvs, hvl⟩, hm⟩ := hJ
  have F0 := Fr_chain _ F1 hm
  clear F1 hm
  show wpC _ _ _ _ _ _
  with_reducible refine wpC_cut F0 (LawJ2 (s₁.heap.objs.size + 1) src sl oB) ?_ ?_
  · --BEGIN
    intro QC9 hQC9
    (try k_fold)
    with_reducible show wpAny _ _ _ _ _ _
    k_steps
    rename Fr _ _ _ _ => F9
    rename News _ _ _ _ => N9
    show CutEnd _ _ _ _ _ .next _
    exact .next F9 (fun p hp => N9 p (.tail _ hp)) ⟨_, _, _, _, _, _, _, _, _, rfl, ⟨by assumption, by assumption, by assumption, by assumption⟩, ring_ge (by assumption), all2 rfl (all2 rfl all0)⟩
    --DONE
  clear F0 N1 ha hb hvs hvl
  intro h' tk' m' nx F1 N1 hJ
  show wpC _ _ _ _ _ { s₁ with heap := h', toks := tk' }
  obtain ⟨a, b, ta, tb, n1, n2, vs, ring, tr, rfl, ⟨ha, hb, hvs, hvl⟩, hring, hm⟩ := hJ
  have F0 := Fr_chain _ F1 hm
  clear F1 hm
  with_reducible refine wpC_cut F0 (LawJ3 (s₁.heap.objs.size + 1) src sl oB ring tr) ?_ ?_
  · --BEGIN
    intro QC9 hQC9
    with_reducible show wpAny _ _ _ _ _ _
    (try k_fold)
    k_steps
    rename Fr _ _ _ _ => F9
    rename News _ _ _ _ => N9
    show CutEnd _ _ _ _ _ .next _
    exact .next F9 (fun p hp => N9 p (.tail _ hp)) ⟨_, _, _, _, _, _, _, _, _, _, _, rfl, ⟨by assumption, by assumption, by assumption, by assumption⟩, by (first | lia | omega), all2 rfl (all2 rfl (all2 rfl (all2 rfl all0)))⟩
    --DONE
  clear F0 N1 ha hb hvs hvl
  intro h' tk' m' nx F1 N1 hJ
  show wpC _ _ _ _ _ { s₁ with heap := h', toks := tk' }
  obtain ⟨a, b, ta, tb, n1, n2, vs, irs, ti, room, tm, rfl, sok, hroom, hm⟩ := hJ
  have F0 := Fr_chain _ F1 hm
  clear F1 hm
  show wpC _ _ _ _ _ _
  with_reducible refine wpC_cutC F0 (LawJ4 w [(src, srcO a b ta tb sl n1), (sl, rowO vs n2), (s₁.heap.objs.size + 1, oB)] src ring tr room tm) ?_ ?_
  · --BEGIN
    intro QC9 hQC9
    refine wpC_AssignTup (wpC_Tuple2 ?_)
    (try dsimp only)
    (try k_fold)
    k_steps
    refine wpC_CallName ?_
    (try dsimp only)
    (try k_fold)
    k_steps
    refine keepsC_f (K := hd.heap_39 w.params) F0 ?X9 ?e9 ?_
    case X9 => k_asm
    case e9 => exact rfl
    (try dsimp only)
    k_dflt (refine' SpecC.use (receiver_spec (R := [(src, srcO a b ta tb sl n1), (sl, rowO vs n2), (s₁.heap.objs.size + 1, oB)]) ?nt ?p1 ?p2) ?B ?F ?X ?N ?T ?hk ?hd ?hu ?_; walk_at "mine use")
    case nt => exact noTup_cons listObj_ne_tup (noTup_cons listObj_ne_tup (noTup_cons (cell_ne_tup dB) noTup_nil))
    case p1 => exact hring
    case p2 => exact hroom
    rintro r9 n9 h9 tk9 F9 N9 ⟨r, P, rfl, H, ap, rfl⟩
    (try dsimp only)
    (try k_sweep)
    (try k_fold)
    k_steps
    rename Fr _ _ _ _ => F8
    rename News _ _ _ _ => N8
    show CutEnd _ _ _ _ _ .next _
    rw [fm (by (first | lia | omega))] at F8
    exact .next F8 (fun p hp => N8 p (.tail _ hp)) ⟨P, r, _, _, rfl, H, ap, all2 rfl (all2 rfl (all2 rfl (all2 rfl (all2 rfl all0))))⟩
    --DONE
  clear F0 N1
  intro h' tk' m' nx F1 N1 hJ
  show wpC _ _ _ _ _ { s₁ with heap := h', toks := tk' }
  obtain ⟨P, r, bs, tB, rfl, H, ap, hm⟩ := hJ
  have F0 := Fr_chain _ F1 hm
  clear F1 hm
  replace N1 : News s₁.heap s₁.heap.objs.size h' ((src, srcO a b ta tb sl n1) :: (sl, rowO vs n2) :: (s₁.heap.objs.size + 1, oB) :: P) := N1
  show wpC _ _ _ _ _ _
  with_reducible refine wpC_cut F0 (LawJ5 w [(src, srcO a b ta tb sl n1), (sl, rowO vs n2), (s₁.heap.objs.size + 1, oB)] src r (initS ring bs room) P ring bs room tr tB tm) ?_ ?_
  · --BEGIN
    intro QC9 hQC9
    (try k_fold)
    k_steps
    show wpAny _ _ _ _ _ _
    rename Fr _ _ _ _ => F9
    k_dflt (refine LCg.ListComp_U F9 (by with_unfolding_all rfl) (by decide) (by rfl) (by decide) (by rfl) ?_)
    (try k_fold)
    k_steps
    rename IsRange _ _ _ _ _ _ _ _ => hr9
    rename Fr _ _ _ _ => F9
    rename News _ _ _ _ => N9
    show LCg.CompSrc _ _ _ _ _ _ _ _ _ _ _ _ _ _
    refine LCg.CompSrc.range rfl F9 N9 hr9 (small_one (by (first | lia | omega)) (by (first | lia | omega)) (by (first | lia | omega)) (by (first | lia | omega))) (rangeSize_nat _ _) (by rw [sizeLine_eq]; (first | lia | omega)) fun g9 => comp_ints _ (fun x => x + 1) True.intro ?_ ?_
    · intro k9 t9 I oI C oC D m₂ ys h tk9 E' hk1 hk2 hC hx F8 N8 off n1 n2 n3
      clear F9 N9
      with_reducible show wpAny _ _ _ _ _ _
      (try k_fold)
      k_steps
      rename Fr _ _ _ _ => F7
      rename News _ _ _ _ => N7
      exact ⟨_, _, _, rfl, F7, N7, int_eq (by (first | lia | omega))⟩
    · intro ys hys D h tk8 F8 N8 off
      clear F9 N9
      replace N8 : News s₁.heap s₁.heap.objs.size h ((D, LCg.lst ys) :: (src, srcO a b ta tb sl n1) :: (sl, rowO vs n2) :: (s₁.heap.objs.size + 1, oB) :: P) := N8
      with_reducible show wpAny _ _ _ _ _ _
      (try k_fold)
      k_steps
      rename Fr _ _ _ _ => F9
      rename News _ _ _ _ => N9
      show CutEnd _ _ _ _ _ .next _
      exact .next F9 (fun p hp => N9 p (.tail _ hp)) ⟨_, rfl, all2 rfl (all2 rfl (all2 rfl (all2 rfl (all2 rfl (all2 rfl all0)))))⟩
    --DONE
  clear F0 N1
  intro h' tk' m' nx F1 N1 hJ
  show wpC _ _ _ _ _ { s₁ with heap := h', toks := tk' }
  obtain ⟨ts, rfl, hm⟩ := hJ
  have F0 := Fr_chain _ F1 hm
  clear F1 hm
  replace N1 : News s₁.heap s₁.heap.objs.size h' ((src, srcO a b ta tb sl n1) :: (sl, rowO vs n2) :: (s₁.heap.objs.size + 1, oB) :: P) := N1
  have j1 := apart_hd ap
  have j2 := apart_hd (apart_tl ap)
  have j3 := apart_hd (apart_tl (apart_tl ap))
  dsimp only at j1 j2 j3
  clear ap
  show wpC _ _ _ _ _ _
  with_reducible refine wpC_cut F0 (LawJ6 w src sl (s₁.heap.objs.size + 1) r ring bs room tr tB tm ts) ?_ ?_
  · --BEGIN
    intro QC9 hQC9
    (try k_fold)
    k_steps
    rename Fr _ _ _ _ => F9
    rename News _ _ _ _ => N9
    rename _ = Data.cell _ => dO9
    show CutEnd _ _ _ _ _ .next _
    rename Obj.IsDictOf (PySem.strKind _ _) _ _ => hd9
    rename Obj.IsDictOf (PySem.intKind _ _) _ _ => hk9
    rename _ < _ ∧ src < _ ∧ sl < _ ∧ s₁.heap.objs.size + 1 < _ ∧ AllLt _ P => lk
    rename src < _ ∧ sl < _ ∧ s₁.heap.objs.size + 1 < _ ∧ AllLt _ P => lb
    rename (_ == sysModules) = false => lo9
    refine .next F9 (fun p hp => N9 p ?_) ⟨_, _, dO9, Nat.ne_of_lt lb.1, Nat.ne_of_lt lb.2.1, Nat.ne_of_gt lb.2.2.1, _, P, initS ring bs room, [], none, _, _, .none, .none, _, _, _, a, b, ta, tb, n1, n2, vs, rfl,
      ⟨inv_init hring hroom, rfl, rfl, rfl, hd9, hk9, fun p hp => (nomatch hp), rfl, rfl, Nat.le_refl _, lo9, H, sok, Nat.ne_of_lt lk.2.1, Nat.ne_of_lt lk.2.2.1, Nat.ne_of_lt lk.1, Nat.ne_of_gt lk.2.2.2.1, j1, j2, allLt_ne lb.2.2.2, allLt_ne lk.2.2.2.2, j3⟩, all2 rfl (all2 rfl (all2 rfl (all2 rfl (all2 rfl (all2 rfl all0)))))⟩
    revert p; walk_at "mine in"
    --DONE
  clear F0 N1 H sok j1 j2 j3
  intro h' tk' m' nx F1 N1 hJ
  show wpC _ _ _ _ _ { s₁ with heap := h', toks := tk' }
  obtain ⟨bk, oc, dO, y1, y2, y3, hJ⟩ := hJ
  obtain ⟨kd, P, S, kvs, bu, ob, ok, fv, uv, t1, t2, t3, a, b, ta, tb, n1, n2, vs, rfl, Z, hm⟩ := hJ
  have F0 := Fr_chain _ F1 hm
  clear F1 hm
  obtain ⟨ha, hb, hvs, hvl⟩ := Z.hsrc
  have z1 := Z.k1
  have z2 := Z.k2
  have z3 := Z.k3
  have z4 := Z.k4
  have z5 := Z.p1
  have z6 := Z.p2
  have z7 := Z.p3
  have z8 := Z.p4
  have z9 := Z.p5
  show wpC _ _ _ _ _ _
  with_reducible refine wpC_cons (wpC_For ?h9 ?hs9)
  case hs9 => intro _; rfl
  (try k_fold)
  k_steps
  show wpAny _ _ _ _ _ _
  rename IsRange _ _ _ _ _ _ _ _ => hr9
  rename Fr _ _ _ _ => F9
  rename News _ _ _ _ => N9
  rename 0 ≤ _ ∧ _ < (7 : Int) => zx
  rename 0 ≤ _ ∧ _ < 2147483647 => zb
  rename IntsV _ => zv
  rename List.length _ ≤ 64 => zl
  rename (0 : Int) ≤ _ => za
  refine for_rangeC (h₀ := s₁.heap) (LawI w src sl bk (s₁.heap.objs.size + 1) r oc ring bs room tr tB tm ts) hr9 ?hb9 F9 N9 ?hj ?turn ?done ?r1 ?r2 ?r3
  case r1 => rfl
  case r2 => rfl
  case r3 => rfl
  case hb9 => exact ⟨by (first | lia | omega), by (first | lia | omega)⟩
  case hj => exact ⟨kd, P, S, kvs, bu, ob, ok, fv, uv, t1, t2, t3, _, _, _, _, _, _, _, rfl, { Z with hsrc := ⟨za, zb, zv, zl⟩ }, all2 rfl (all2 rfl (all2 rfl (all2 rfl (all2 rfl (all2 rfl all0)))))⟩
  case done =>
    --BEGIN
    clear hr9 F9 N9 ha hb hvs hvl z1 z2 z3 z4 z5 z6 z7 z8 z9 F0 N1 za zb zv zl
    rename Fr _ _ _ _ => G9
    rename News _ _ _ _ => M9
    clear G9 M9 Z
    intro m₁ nx h tk hJ F8 N8
    obtain ⟨kd, P, S, kvs, bu, ob, ok, fv, uv, t1, t2, t3, a, b, ta, tb, n1, n2, vs, rfl, Z, hm⟩ := hJ
    have F0 := Fr_chain _ F8 hm
    replace F0 : Fr s₁.heap s₁.heap.objs.size h _ := F0
    replace N8 : News s₁.heap s₁.heap.objs.size h _ := N8
    clear F8 hm
    have z1 := Z.k1
    have z2 := Z.k2
    have z3 := Z.k3
    have z4 := Z.k4
    have z5 := Z.p1
    have z6 := Z.p2
    have z7 := Z.p3
    have z8 := Z.p4
    have z9 := Z.p5
    have hob := Z.hob
    have hok := Z.hok
    have lo9 := Z.lo
    have q2 := Z.inv.good.room
    have q3 := Z.inv.good.rd
    have q4 := Z.inv.good.n
    show wpC _ _ _ _ _ { s₁ with heap := h, toks := tk }
    with_reducible refine wpC_any ?_
    obtain ⟨dr, rb, x, dx, l, vs9, nn, k0, k1, k2, k3, k4, k5, k6, k7, k8, k9, v0, v1, v2, v3, v6, a1, a2, a3, fv9, uv9, H1⟩ := id Z.recv
    have sub : ∀ p ∈ P, p ∈ (src, srcO a b ta tb sl n1) :: (sl, rowO vs n2) :: (bk, ob) :: (kd, ok) :: (s₁.heap.objs.size + 1, oc) :: P := fun p hp => .tail _ (.tail _ (.tail _ (.tail _ (.tail _ hp))))
    have mr := sub _ H1.mr
    have md := sub _ H1.md
    clear H1 sub
    (try k_fold)
    k_steps
    show wpAny _ _ _ _ _ _
    k_dflt (refine' Spec.use (read_spec (R := [(src, srcO a b ta tb sl n1), (sl, rowO vs n2), (bk, ob), (kd, ok), (s₁.heap.objs.size + 1, oc)]) Z.recv ?ap ?nt Z.inv.good ?hk60) ?B ?F ?X ?N ?T ?hk ?hd ?hu ?_; walk_at "mine use")
    case ap => exact apart_cons z5 (apart_cons z6 (apart_cons z7 (apart_cons z8 (apart_cons z9 apart_nil))))
    case nt => exact noTup_cons listObj_ne_tup (noTup_cons listObj_ne_tup (noTup_cons (dictObj_ne_tup hob) (noTup_cons (dictObj_ne_tup hok) (noTup_cons (cell_ne_tup dO) noTup_nil))))
    case hk60 => decide
    rintro r9 n9 h9 tk9 F9 N9 ⟨P', t9, rfl, H', A', rfl⟩
    replace N9 : News s₁.heap s₁.heap.objs.size h9 ((src, srcO a b ta tb sl n1) :: (sl, rowO vs n2) :: (bk, ob) :: (kd, ok) :: (s₁.heap.objs.size + 1, oc) :: P') := N9
    rw [show min S.n (S.rd + 60) = S.n by (first | lia | omega)]
    clear mr md F0 N8
    (try dsimp only)
    (try k_fold)
    k_steps
    show wpAny _ _ _ _ _ _
    rename Fr _ _ _ _ => F7
    k_dflt (refine LCg.ListComp_U F7 (by with_unfolding_all rfl) (by decide) (by rfl) (by decide) (by rfl) ?_)
    (try k_fold)
    k_steps
    rename IsRange _ _ _ _ _ _ _ _ => hr9
    rename Fr _ _ _ _ => F9
    rename News _ _ _ _ => N9
    show LCg.CompSrc _ _ _ _ _ _ _ _ _ _ _ _ _ _
    refine LCg.CompSrc.range rfl F9 N9 hr9 (small_one (by (first | lia | omega)) (by (first | lia | omega)) (by (first | lia | omega)) (by (first | lia | omega))) (rangeSize_nat _ _) (by rw [sizeLine_eq]; (first | lia | omega)) fun g9 => comp_ints _ (fun x => x + 1) True.intro ?_ ?_
    · intro k9 t9 I oI C oC D m₂ ys h tk9 E' hk1 hk2 hC hx F8 N8 off u1 u2 u3
      obtain ⟨tv, hv9⟩ := known_at Z.known ((Z.inv.keys k9).mpr (.inl ⟨by (first | lia | omega), by (first | lia | omega)⟩))
      clear F9 N9
      with_reducible show wpAny _ _ _ _ _ _
      (try k_fold)
      k_steps
      rename Fr _ _ _ _ => F7
      rename News _ _ _ _ => N7
      exact ⟨_, _, _, rfl, F7, N7, rfl⟩
    · intro ys hys D h tk8 F8 N8 off
      clear F9 N9
      replace N8 : News s₁.heap s₁.heap.objs.size h ((D, LCg.lst ys) :: (src, srcO a b ta tb sl n1) :: (sl, rowO vs n2) :: (bk, ob) :: (kd, ok) :: (s₁.heap.objs.size + 1, oc) :: P') := N8
      with_reducible show wpAny _ _ _ _ _ _
      (try k_fold)
      k_steps
      rw [octs_bytes q3.1, beq_self_eq_true]
      rename Fr _ _ _ _ => FZ
      exact fin _ _ _ FZ
    --DONE
  case turn =>
    intro i t m₁ nx h tk I oI hi
    have hi7 : i ≤ 7 := by (first | lia | omega)
    clear hi zx za zb zv zl hr9 F9 N9 ha hb hvs hvl z1 z2 z3 z4 z5 z6 z7 z8 z9 F0 N1
    rename Fr _ _ _ _ => G9
    rename News _ _ _ _ => M9
    clear G9 M9 Z
    intro hI hJ F8 N8 hoI QT9 hQT9
    replace F8 : Fr s₁.heap s₁.heap.objs.size h _ := F8
    obtain ⟨kd, P, S, kvs, bu, ob, ok, fv, uv, t1, t2, t3, a, b, ta, tb, n1, n2, vs, rfl, Z, hm⟩ := hJ
    have F0 := Fr_chain [(("turn" : Str), Value.int (0 + (i : Int)) t), ("stream", .bytes (octs 0 60) ts), ("receiver", .ref r), ("base", .int bs tB), ("room", .int room tm), ("ring", .int ring tr), ("source", .ref src)] F8 (all2 rfl (all2 (hm _ (.head _)) (all2 (hm _ (.tail _ (.head _))) (all2 (hm _ (.tail _ (.tail _ (.head _)))) (all2 (hm _ (.tail _ (.tail _ (.tail _ (.head _))))) (all2 (hm _ (.tail _ (.tail _ (.tail _ (.tail _ (.head _)))))) (all2 (hm _ (.tail _ (.tail _ (.tail _ (.tail _ (.tail _ (.head _))))))) all0)))))))
    replace N8 : News s₁.heap s₁.heap.objs.size h ((src, srcO a b ta tb sl n1) :: (sl, rowO vs n2) :: (bk, ob) :: (kd, ok) :: (s₁.heap.objs.size + 1, oc) :: (I, oI) :: P) := fun p hp => N8 p (by
      revert p; walk_at "mine in")
    clear F8 hm
    have e1 : src ≠ I := hI _ (.head _)
    have e2 : sl ≠ I := hI _ (.tail _ (.head _))
    have e3 : bk ≠ I := hI _ (.tail _ (.tail _ (.head _)))
    have e4 : kd ≠ I := hI _ (.tail _ (.tail _ (.tail _ (.head _))))
    have e5 : s₁.heap.objs.size + 1 ≠ I := hI _ (.tail _ (.tail _ (.tail _ (.tail _ (.head _)))))
    have e6 : ∀ p ∈ P, p.1 ≠ I := fun p hp => hI _ (.tail _ (.tail _ (.tail _ (.tail _ (.tail _ hp)))))
    clear hI
    have z1 := Z.k1
    have z2 := Z.k2
    have z3 := Z.k3
    have z4 := Z.k4
    have z5 := Z.p1
    have z6 := Z.p2
    have z7 := Z.p3
    have z8 := Z.p4
    have z9 := Z.p5
    have hob := Z.hob
    have q1 := Z.inv.good.ring
    have q2 := Z.inv.good.room
    have q3 := Z.inv.good.rd
    have q4 := Z.inv.good.n
    obtain ⟨ha, hb, hvs, hvl⟩ := Z.hsrc
    show wpC _ _ _ _ _ { s₁ with heap := h, toks := tk }
    with_reducible refine wpC_cut F0 (TJ src sl ((bk, ob) :: (kd, ok) :: (s₁.heap.objs.size + 1, oc) :: (I, oI) :: P) (fun ns => ∃ u tu, (0 ≤ u ∧ u ≤ 17) ∧ ns = [(("spot" : Str), Value.int u tu), ("stream", .bytes (octs 0 60) ts), ("receiver", .ref r), ("base", .int bs tB), ("room", .int room tm), ("ring", .int ring tr), ("source", .ref src)])) ?_ ?_
    · --BEGIN
      intro QC9 hQC9
      with_reducible show wpAny _ _ _ _ _ _
      (try k_fold)
      k_steps
      all_goals rename Fr _ _ _ _ => F9
      all_goals rename News _ _ _ _ => N9
      all_goals show CutEnd _ _ _ _ _ .next _
      all_goals exact .next F9 N9 ⟨_, _, _, _, _, _, _, _, rfl, ⟨ha, hb, hvs, hvl⟩, ⟨_, _, (by constructor <;> (first | (first | lia | omega) | (split <;> (first | lia | omega)))), rfl⟩, all2 rfl (all2 rfl (all2 rfl (all2 rfl (all2 rfl (all2 rfl (all2 rfl all0))))))⟩
      --DONE
    clear F0 N8 ha hb hvs hvl
    intro h1 tk1 m1 nx1 F1 N1 hJ
    show wpC _ _ _ _ _ { s₁ with heap := h1, toks := tk1 }
    obtain ⟨a, b, ta, tb, n1, n2, vs, names, rfl, ⟨ha, hb, hvs, hvl⟩, ⟨u, tu, hu, rfl⟩, hm⟩ := hJ
    have F0 := Fr_chain _ F1 hm
    clear F1 hm
    with_reducible refine wpC_cut F0 (TJ src sl ((bk, ob) :: (kd, ok) :: (s₁.heap.objs.size + 1, oc) :: (I, oI) :: P) (fun ns => ∃ u tu, (0 ≤ u ∧ u ≤ 32) ∧ ns = [(("spot" : Str), Value.int u tu), ("stream", .bytes (octs 0 60) ts), ("receiver", .ref r), ("base", .int bs tB), ("room", .int room tm), ("ring", .int ring tr), ("source", .ref src)])) ?_ ?_
    · --BEGIN
      intro QC9 hQC9
      with_reducible show wpAny _ _ _ _ _ _
      (try k_fold)
      k_steps
      rename Fr _ _ _ _ => F9
      rename News _ _ _ _ => N9
      show CutEnd _ _ _ _ _ .next _
      exact .next F9 N9 ⟨_, _, _, _, _, _, _, _, rfl, ⟨by assumption, by assumption, by assumption, by assumption⟩, ⟨_, _, (by (first | lia | omega)), rfl⟩, all2 rfl (all2 rfl (all2 rfl (all2 rfl (all2 rfl (all2 rfl (all2 rfl all0))))))⟩
      --DONE
    clear F0 N1 ha hb hvs hvl hu
    intro h1 tk1 m1 nx1 F1 N1 hJ
    show wpC _ _ _ _ _ { s₁ with heap := h1, toks := tk1 }
    obtain ⟨a, b, ta, tb, n1, n2, vs, names, rfl, ⟨ha, hb, hvs, hvl⟩, ⟨u, tu, hu, rfl⟩, hm⟩ := hJ
    have F0 := Fr_chain _ F1 hm
    clear F1 hm
    with_reducible refine wpC_cut F0 (TJ src sl ((bk, ob) :: (kd, ok) :: (s₁.heap.objs.size + 1, oc) :: (I, oI) :: P) (fun ns => ∃ v to hf, (u ≤ v ∧ v ≤ 38) ∧ ns = [(("has_fin" : Str), Value.bool hf), ("octets", .bytes (octs u v) to), ("spot", .int u tu), ("stream", .bytes (octs 0 60) ts), ("receiver", .ref r), ("base", .int bs tB), ("room", .int room tm), ("ring", .int ring tr), ("source", .ref src)])) ?_ ?_
    · --BEGIN
      intro QC9 hQC9
      with_reducible show wpAny _ _ _ _ _ _
      (try k_fold)
      k_steps
      rename Fr _ _ _ _ => F9
      rename News _ _ _ _ => N9
      rename (_ : Array UInt8) = octs _ _ => hx9
      rw [Int.zero_add, Int.zero_add] at hx9
      subst hx9
      show CutEnd _ _ _ _ _ .next _
      exact .next F9 (fun p hp => N9 p (.tail _ hp)) ⟨_, _, _, _, _, _, _, _, rfl, ⟨by assumption, by assumption, by assumption, by assumption⟩, ⟨_, _, _, (by (first | lia | omega)), rfl⟩, all2 rfl (all2 rfl (all2 rfl (all2 rfl (all2 rfl (all2 rfl (all2 rfl (all2 rfl (all2 rfl all0))))))))⟩
      --DONE
    clear F0 N1 ha hb hvs hvl
    intro h1 tk1 m1 nx1 F1 N1 hJ
    show wpC _ _ _ _ _ { s₁ with heap := h1, toks := tk1 }
    obtain ⟨a, b, ta, tb, n1, n2, vs, names, rfl, hsrc, ⟨v, to, hf, hv, rfl⟩, hm⟩ := hJ
    have F0 := Fr_chain _ F1 hm
    clear F1 hm
    with_reducible refine wpC_cutC F0 (TK w src sl bk (s₁.heap.objs.size + 1) r I oc oI ring bs room tr tB tm ts (40 * (i + 1))) ?_ ?_
    · --BEGIN
      intro QC9 hQC9
      with_reducible refine' wpC_IfCmp (wpC_Method ?_ ?hs9 ?hp9 ?he9) ?hm9
      case he9 => exact rfl
      case hs9 => exact rfl
      case hp9 => exact rfl
      case hm9 => with_unfolding_all rfl
      obtain ⟨dr, rb, x, dx, l, vs9, nn, k0, k1, k2, k3, k4, k5, k6, k7, k8, k9, v0, v1, v2, v3, v6, a1, a2, a3, fv9, uv9, H1⟩ := id Z.recv
      have sub : ∀ p ∈ P, p ∈ (src, srcO a b ta tb sl n1) :: (sl, rowO vs n2) :: (bk, ob) :: (kd, ok) :: (s₁.heap.objs.size + 1, oc) :: (I, oI) :: P := fun p hp => .tail _ (.tail _ (.tail _ (.tail _ (.tail _ (.tail _ hp)))))
      have mr := sub _ H1.mr
      have md := sub _ H1.md
      clear H1 sub
      (try dsimp only)
      (try k_fold)
      k_steps
      have eq9 : (bs + u).fmod ring = sq S.ring S.bs u := by rw [fm (by (first | lia | omega)), Z.eR, Z.eB]; rfl
      rw [eq9]
      refine keepsC_f (K := hd.heap_39 w.params) F0 ?X9 ?e9 ?_
      case X9 => k_asm
      case e9 => exact rfl
      (try dsimp only)
      k_dflt (refine' SpecC.use (arrive_spec (R := [(src, srcO a b ta tb sl n1), (sl, rowO vs n2), (bk, ob), (kd, ok), (s₁.heap.objs.size + 1, oc), (I, oI)]) Z.recv ?ap ?nt Z.inv.good Z.inv.can ?hu9) ?B ?F ?X ?N ?T ?hk ?hd ?hu ?_; walk_at "mine use")
      case ap => exact apart_cons z5 (apart_cons z6 (apart_cons z7 (apart_cons z8 (apart_cons z9 (apart_cons e6 apart_nil)))))
      case nt => exact noTup_cons listObj_ne_tup (noTup_cons listObj_ne_tup (noTup_cons (dictObj_ne_tup hob) (noTup_cons (dictObj_ne_tup Z.hok) (noTup_cons (cell_ne_tup dO) (noTup_cons hoI noTup_nil)))))
      case hu9 => (first | lia | omega)
      rintro y9 n9 h9 tk9 F9 N9 ⟨T9, tT, P', rfl, H', A', hT, rfl⟩
      have G1 : ∀ p ∈ [(src, srcO a b ta tb sl n1), (sl, rowO vs n2), (bk, ob), (kd, ok), (s₁.heap.objs.size + 1, oc), (I, oI)], p.1 < T9 := fun p hp => hT p (List.mem_append.mpr (.inl hp))
      have o1 : bk < T9 := G1 _ (.tail _ (.tail _ (.head _)))
      have o2 : kd < T9 := G1 _ (.tail _ (.tail _ (.tail _ (.head _))))
      have o3 := apart_hd (apart_tl (apart_tl A'))
      have o4 := apart_hd (apart_tl (apart_tl (apart_tl A')))
      dsimp only at o3 o4
      replace N9 : News s₁.heap s₁.heap.objs.size h9 ((bk, ob) :: (kd, ok) :: (T9, tup2 (.int (arrV u v hf S) tT) (.bool (decide (u ≤ S.nx)))) :: (src, srcO a b ta tb sl n1) :: (sl, rowO vs n2) :: (s₁.heap.objs.size + 1, oc) :: (I, oI) :: P') := fun p hp => N9 p (by
        revert p; (try simp only [List.cons_append, List.nil_append]); walk_at "mine in")
      clear mr md F0 N1
      (try dsimp only)
      (try k_fold)
      k_steps
      show wpAny _ _ _ _ _ _
      k_dflt (refine' Spec.use (arrived_spec (R := (T9, tup2 (.int (arrV u v hf S) tT) (.bool (decide (u ≤ S.nx)))) :: (src, srcO a b ta tb sl n1) :: (sl, rowO vs n2) :: (s₁.heap.objs.size + 1, oc) :: (I, oI) :: P') hob Z.hok Z.known Z.hfv Z.lo Z.k3 ?r1 ?r2 ?hn9 ?he9 ?hs9 ?hkb9 ?hkl9) ?B ?F ?X ?N ?T ?hk ?hd ?hu ?_; walk_at "mine use")
      case r1 => exact List.forall_mem_cons.mpr ⟨Nat.ne_of_gt o1, all2 y1 (all2 y2 (all2 (Ne.symm y3) (all2 (Ne.symm e3) o3)))⟩
      case r2 => exact List.forall_mem_cons.mpr ⟨Nat.ne_of_gt o2, all2 z1 (all2 z2 (all2 (Ne.symm z4) (all2 (Ne.symm e4) o4)))⟩
      case hn9 => (first | lia | omega)
      case he9 => (first | lia | omega)
      case hs9 => (first | lia | omega)
      case hkb9 =>
        intro x hx
        rcases (Z.inv.keys x).mp hx with h | h
        · (first | lia | omega)
        · have := ini_room Z.inv.good h
          (first | lia | omega)
      case hkl9 => have := Z.hlen; (first | lia | omega)
      rintro y8 n8 h8 tk8 F8 N8 ⟨T8, t8, ob', kd', ok', kvs', fv', a', q, t1', rfl, rfl, w1, w2, w3, w4, w5, w6, w7, w8, w9, wA, wB, wC, wD, wE, wF, wG⟩
      replace N8 : News s₁.heap s₁.heap.objs.size h8 ((T8, tup2 (.int q t8) (.bool (decide (u ≤ S.n + if S.over = true then 1 else 0)))) :: (bk, ob') :: (kd', ok') :: (T9, tup2 (.int (arrV u v hf S) tT) (.bool (decide (u ≤ S.nx)))) :: (src, srcO a b ta tb sl n1) :: (sl, rowO vs n2) :: (s₁.heap.objs.size + 1, oc) :: (I, oI) :: P') := N8
      (try clear F9)
      (try clear N9)
      obtain ⟨x1, x2, x3, x4, x5, x6, x7, x8, JV⟩ := arr_law (hf := hf) Z.inv (show 0 ≤ u ∧ u ≤ v ∧ v ≤ 40 by (first | lia | omega)) ⟨w5, by (first | lia | omega), wE, wF, wG⟩
      clear w5 wE wF wG
      (try dsimp only)
      (try k_fold)
      k_steps
      · rw [show arrV u v hf S = q by (first | lia | omega), ← nx_iff]
        simp
      · rename Fr _ _ _ _ => F7
        rename News _ _ _ _ => N7
        show CutEnd _ _ _ _ _ .next _
        refine .next F7 (fun p hp => N7 p ?_) ⟨kd', P', arrS u v hf S, kvs', bu, ob', ok', fv', uv, t1', t2, t3, a, b, ta, tb, n1, n2, vs, rfl,
          ⟨JV, x6.trans Z.eR, x7.trans Z.eB, x8.trans Z.eM, by rw [x2, x5, x8, x3]; exact w1, w3, w4, by rw [x4]; exact w2, Z.huv, by have := Z.hlen; (first | lia | omega), w7, H', hsrc, w9 _ (.tail _ (.head _)), w9 _ (.tail _ (.tail _ (.head _))), w8, Ne.symm (w9 _ (.tail _ (.tail _ (.tail _ (.head _))))), apart_hd A', apart_hd (apart_tl A'), o3, fun p hp => w9 _ (.tail _ (.tail _ (.tail _ (.tail _ (.tail _ hp))))), apart_hd (apart_tl (apart_tl (apart_tl (apart_tl A'))))⟩,
          Ne.symm (w9 _ (.tail _ (.tail _ (.tail _ (.tail _ (.head _)))))), apart_hd (apart_tl (apart_tl (apart_tl (apart_tl (apart_tl A'))))), all2 rfl (all2 rfl (all2 rfl (all2 rfl (all2 rfl (all2 rfl all0)))))⟩
        revert p; walk_at "mine in"
      --DONE
    clear F0 N1 hsrc hv hob q1 q2 q3 q4 z1 z2 z3 z4 z5 z6 z7 z8 z9 e4 e6 Z hu
    intro h1 tk1 m1 nx1 F1 N1 hJ
    show wpC _ _ _ _ _ { s₁ with heap := h1, toks := tk1 }
    obtain ⟨kd, P, S, kvs, bu, ob, ok, fv, uv, t1, t2, t3, a, b, ta, tb, n1, n2, vs, rfl, Z, e4, e6, hm⟩ := hJ
    have F0 := Fr_chain _ F1 hm
    clear F1 hm
    have z1 := Z.k1
    have z2 := Z.k2
    have z3 := Z.k3
    have z4 := Z.k4
    have z5 := Z.p1
    have z6 := Z.p2
    have z7 := Z.p3
    have z8 := Z.p4
    have z9 := Z.p5
    have hob := Z.hob
    have q1 := Z.inv.good.ring
    have q2 := Z.inv.good.room
    have q3 := Z.inv.good.rd
    have q4 := Z.inv.good.n
    obtain ⟨ha, hb, hvs, hvl⟩ := Z.hsrc
    with_reducible refine wpC_cut F0 (TK w src sl bk (s₁.heap.objs.size + 1) r I oc oI ring bs room tr tB tm ts (40 * (i + 1))) ?_ ?_
    · --BEGIN
      intro QC9 hQC9
      with_reducible show wpAny _ _ _ _ _ _
      (try k_fold)
      k_steps
      · show wpAny _ _ _ _ _ _
        rename News _ _ _ _ => N9
        rename 0 ≤ _ ∧ _ < (12 : Int) => zx
        obtain ⟨x9, ex9, zx⟩ : ∃ x, x = _ ∧ (0 ≤ x ∧ x < 12) := ⟨_, rfl, zx⟩
        subst ex9
        obtain ⟨a, b, ta, tb, n1, n2, vs, N8, so⟩ : ∃ a b ta tb n1 n2 vs, News s₁.heap s₁.heap.objs.size _ ((src, srcO a b ta tb sl n1) :: (sl, rowO vs n2) :: (bk, ob) :: (kd, ok) :: (s₁.heap.objs.size + 1, oc) :: (I, oI) :: P) ∧ SrcOk a b vs := ⟨_, _, _, _, _, _, _, N9, by assumption, by assumption, by assumption, by assumption⟩
        clear N9
        have hp9 : ∃ p, p = S.n + x9 - 2 := ⟨_, rfl⟩
        obtain ⟨p, ep⟩ := hp9
        have eq9 : (bs + p).fmod ring = sq S.ring S.bs p := by rw [fm (by (first | lia | omega)), Z.eR, Z.eB]; rfl
        rename Fr _ _ _ _ => F9
        rw [← ep] at F9
        obtain ⟨dr, rb, x, dx, l, vs9, nn, k0, k1, k2, k3, k4, k5, k6, k7, k8, k9, v0, v1, v2, v3, v6, a1, a2, a3, fv9, uv9, H1⟩ := id Z.recv
        have sub : ∀ p ∈ P, p ∈ (src, srcO a b ta tb sl n1) :: (sl, rowO vs n2) :: (bk, ob) :: (kd, ok) :: (s₁.heap.objs.size + 1, oc) :: (I, oI) :: P := fun p hp => .tail _ (.tail _ (.tail _ (.tail _ (.tail _ (.tail _ hp)))))
        have mr := sub _ H1.mr
        have md := sub _ H1.md
        clear H1 sub
        (try k_fold)
        k_steps
        show wpAny _ _ _ _ _ _
        rw [eq9]
        k_dflt (refine' Spec.use (urgent_spec (p := p) (R := [(src, srcO a b ta tb sl n1), (sl, rowO vs n2), (bk, ob), (kd, ok), (s₁.heap.objs.size + 1, oc), (I, oI)]) Z.recv ?ap ?nt Z.inv.good ?hv9) ?B ?F ?X ?N ?T ?hk ?hd ?hu ?_; walk_at "mine use")
        case ap => exact apart_cons z5 (apart_cons z6 (apart_cons z7 (apart_cons z8 (apart_cons z9 (apart_cons e6 apart_nil)))))
        case nt => exact noTup_cons listObj_ne_tup (noTup_cons listObj_ne_tup (noTup_cons (dictObj_ne_tup hob) (noTup_cons (dictObj_ne_tup Z.hok) (noTup_cons (cell_ne_tup dO) (noTup_cons hoI noTup_nil)))))
        case hv9 => (first | lia | omega)
        rintro y9 n9 h9 tk9 F7 N7 ⟨P', rfl, H', A', rfl⟩
        replace N7 : News s₁.heap s₁.heap.objs.size h9 ((src, srcO a b ta tb sl n1) :: (sl, rowO vs n2) :: (bk, ob) :: (kd, ok) :: (s₁.heap.objs.size + 1, oc) :: (I, oI) :: P') := N7
        clear mr md N8 F9 z5 z6 z7 z8 z9 e6
        have z5 := apart_hd A'
        have z6 := apart_hd (apart_tl A')
        have z7 := apart_hd (apart_tl (apart_tl A'))
        have z8 := apart_hd (apart_tl (apart_tl (apart_tl A')))
        have z9 := apart_hd (apart_tl (apart_tl (apart_tl (apart_tl A'))))
        have e6 := apart_hd (apart_tl (apart_tl (apart_tl (apart_tl (apart_tl A')))))
        dsimp only at z5 z6 z7 z8 z9 e6
        obtain ⟨JU, y1', y2', y3', y4', y5', y6', y7'⟩ := urg_law (p := p) Z.inv (by (first | lia | omega))
        (try dsimp only)
        (try k_fold)
        have huv := Z.huv
        cases bu with
        | none =>
          have huv' := huv
          obtain rfl : uv = .none := huv'
          k_steps
          · rename Fr _ _ _ _ => F9
            rename News _ _ _ _ => N9
            rename Obj.IsDictOf (PySem.strKind _ _) _ _ => hd9
            show CutEnd _ _ _ _ _ .next _
            exact .next F9 N9 ⟨kd, P', urgS p S, kvs, _, _, ok, fv, _, t1, t2, t3, _, _, _, _, _, _, _, rfl, Z.urg1 (by (first | lia | omega)) ⟨fun u h => (nomatch h), by assumption⟩ H' hd9 so z5 z6 z7 z8 z9, e4, e6, all2 rfl (all2 rfl (all2 rfl (all2 rfl (all2 rfl (all2 rfl all0)))))⟩
          · rename Fr _ _ _ _ => F9
            rename News _ _ _ _ => N9
            show CutEnd _ _ _ _ _ .next _
            exact .next F9 N9 ⟨kd, P', urgS p S, kvs, _, _, ok, fv, _, t1, t2, t3, _, _, _, _, _, _, _, rfl, Z.urg0 (by (first | lia | omega)) (fun h => absurd h.2 (by assumption)) H' so z5 z6 z7 z8 z9, e4, e6, all2 rfl (all2 rfl (all2 rfl (all2 rfl (all2 rfl (all2 rfl all0)))))⟩
        | some ub =>
          have huv' := huv
          obtain ⟨tub, rfl⟩ := huv'
          k_steps
          · rename Fr _ _ _ _ => F9
            rename News _ _ _ _ => N9
            rename Obj.IsDictOf (PySem.strKind _ _) _ _ => hd9
            show CutEnd _ _ _ _ _ .next _
            exact .next F9 N9 ⟨kd, P', urgS p S, kvs, _, _, ok, fv, _, t1, t2, t3, _, _, _, _, _, _, _, rfl, Z.urg1 (by (first | lia | omega)) ⟨fun u h => by injection h with h; (first | lia | omega), by assumption⟩ H' hd9 so z5 z6 z7 z8 z9, e4, e6, all2 rfl (all2 rfl (all2 rfl (all2 rfl (all2 rfl (all2 rfl all0)))))⟩
          · rename Fr _ _ _ _ => F9
            rename News _ _ _ _ => N9
            show CutEnd _ _ _ _ _ .next _
            exact .next F9 N9 ⟨kd, P', urgS p S, kvs, _, _, ok, fv, _, t1, t2, t3, _, _, _, _, _, _, _, rfl, Z.urg0 (by (first | lia | omega)) (fun h => absurd (h.1 _ rfl) (by assumption)) H' so z5 z6 z7 z8 z9, e4, e6, all2 rfl (all2 rfl (all2 rfl (all2 rfl (all2 rfl (all2 rfl all0)))))⟩
          · rename Fr _ _ _ _ => F9
            rename News _ _ _ _ => N9
            show CutEnd _ _ _ _ _ .next _
            exact .next F9 N9 ⟨kd, P', urgS p S, kvs, _, _, ok, fv, _, t1, t2, t3, _, _, _, _, _, _, _, rfl, Z.urg0 (by (first | lia | omega)) (fun h => absurd h.2 (by assumption)) H' so z5 z6 z7 z8 z9, e4, e6, all2 rfl (all2 rfl (all2 rfl (all2 rfl (all2 rfl (all2 rfl all0)))))⟩
      · rename Fr _ _ _ _ => F9
        rename News _ _ _ _ => N9
        show CutEnd _ _ _ _ _ .next _
        exact .next F9 N9 ⟨kd, P, S, kvs, bu, ob, ok, fv, uv, t1, t2, t3, _, _, _, _, _, _, _, rfl, { Z with hsrc := ⟨by assumption, by assumption, by assumption, by assumption⟩ }, e4, e6, all2 rfl (all2 rfl (all2 rfl (all2 rfl (all2 rfl (all2 rfl all0)))))⟩
      --DONE
    clear F0 N1 hob q1 q2 q3 q4 z1 z2 z3 z4 z5 z6 z7 z8 z9 e4 e6 Z ha hb hvs hvl
    intro h1 tk1 m1 nx1 F1 N1 hJ
    show wpC _ _ _ _ _ { s₁ with heap := h1, toks := tk1 }
    obtain ⟨kd, P, S, kvs, bu, ob, ok, fv, uv, t1, t2, t3, a, b, ta, tb, n1, n2, vs, rfl, Z, e4, e6, hm⟩ := hJ
    have F0 := Fr_chain _ F1 hm
    clear F1 hm
    with_reducible refine wpC_cut F0 (TK w src sl bk (s₁.heap.objs.size + 1) r I oc oI ring bs room tr tB tm ts (40 * (i + 1))) ?_ ?_
    · --BEGIN
      intro QC9 hQC9
      have hob := Z.hob
      have z1 := Z.k1
      have z2 := Z.k2
      have z3 := Z.k3
      have z4 := Z.k4
      have z5 := Z.p1
      have z6 := Z.p2
      have z7 := Z.p3
      have z8 := Z.p4
      have z9 := Z.p5
      with_reducible show wpAny _ _ _ _ _ _
      (try k_fold)
      k_steps
      show wpAny _ _ _ _ _ _
      have w1 := Z.eR
      have w2 := Z.eB
      have w3 := Z.eM
      subst w1 w2 w3
      k_dflt (refine' Spec.use (stands_spec hob Z.hok Z.huv (leftV_tell Z.inv.urg) Z.recv Z.inv.good ⟨z5, z6, z7, z8, z9, e6⟩ (cell_ne_tup dO) hoI) ?B ?F ?X ?N ?T ?hk ?hd ?hu ?_; walk_at "mine use")
      rintro y9 n9 h9 tk9 F7 N7 ⟨P', rfl, H', ⟨j1, j2, j3, j4, j5, j6⟩, rfl⟩
      clear F0 N1
      (try dsimp only)
      (try k_fold)
      k_steps
      rename Fr _ _ _ _ => F9
      rename News _ _ _ _ => N9
      show CutEnd _ _ _ _ _ .next _
      exact .next F9 N9 ⟨kd, P', S, kvs, bu, ob, ok, fv, uv, t1, t2, t3, _, _, _, _, _, _, _, rfl, Z.same H' Z.hsrc j1 j2 j3 j4 j5, e4, j6, all2 rfl (all2 rfl (all2 rfl (all2 rfl (all2 rfl (all2 rfl all0)))))⟩
      --DONE
    clear F0 N1 e4 e6 Z
    intro h1 tk1 m1 nx1 F1 N1 hJ
    show wpC _ _ _ _ _ { s₁ with heap := h1, toks := tk1 }
    obtain ⟨kd, P, S, kvs, bu, ob, ok, fv, uv, t1, t2, t3, a, b, ta, tb, n1, n2, vs, rfl, Z, e4, e6, hm⟩ := hJ
    have F0 := Fr_chain _ F1 hm
    clear F1 hm
    with_reducible refine wpC_cut F0 (TR w src sl bk (s₁.heap.objs.size + 1) r I oc oI ring bs room tr tB tm ts (40 * (i + 1)) fun _ u => u) ?_ ?_
    · --BEGIN
      intro QC9 hQC9
      have hob := Z.hob
      have z1 := Z.k1
      have z2 := Z.k2
      have z3 := Z.k3
      have z4 := Z.k4
      have z5 := Z.p1
      have z6 := Z.p2
      have z7 := Z.p3
      have z8 := Z.p4
      have z9 := Z.p5
      have q3 := Z.inv.good.rd
      obtain ⟨ha, hb, hvs, hvl⟩ := Z.hsrc
      with_reducible show wpAny _ _ _ _ _ _
      (try k_fold)
      k_steps
      · show wpAny _ _ _ _ _ _
        rename News _ _ _ _ => N9
        obtain ⟨a, b, ta, tb, n1, n2, vs, N8, so⟩ : ∃ a b ta tb n1 n2 vs, News s₁.heap s₁.heap.objs.size _ ((src, srcO a b ta tb sl n1) :: (sl, rowO vs n2) :: (bk, ob) :: (kd, ok) :: (s₁.heap.objs.size + 1, oc) :: (I, oI) :: P) ∧ SrcOk a b vs := ⟨_, _, _, _, _, _, _, N9, by assumption, by assumption, by assumption, by assumption⟩
        clear N9
        k_dflt (refine' Spec.use (read_right_spec ⟨so.1, so.2.1⟩ so.2.2.1 so.2.2.2 hob Z.hok Z.known Z.lo (fun x h1 h2 => (Z.inv.keys x).mpr (.inl ⟨by (first | lia | omega), h2⟩)) Z.recv Z.inv.good x1 y1 z1 y2 z2 z3 z5 z6 z7 z8 z9 e6 (Ne.symm x2) (Ne.symm x3) (Ne.symm y3) (Ne.symm e1) (Ne.symm e2) (Ne.symm e3) (cell_ne_tup dO) hoI) ?B ?F ?X ?N ?T ?hk ?hd ?hu ?_; walk_at "mine use")
        rintro y9 n9 h9 tk9 F7 N7 ⟨k, a', b', ta', tb', n1', n2', vs', ob', P', tr', rfl, hk9, so', hd9, H', off', rfl⟩
        (try dsimp only)
        (try k_fold)
        k_steps
        rename Fr _ _ _ _ => F9
        rename News _ _ _ _ => N9
        show CutEnd _ _ _ _ _ .next _
        exact .next F9 N9 ⟨kd, P, S, kvs, bu, ob, ok, fv, uv, t1, t2, t3, _, _, _, _, _, _, _, _, _, _, k, P', ob', uv, tr', rfl, Z, hk9, so', H', hd9, Z.huv, off', e4, all2 rfl (all2 rfl (all2 rfl (all2 rfl (all2 rfl (all2 rfl all0)))))⟩
      · rename Fr _ _ _ _ => F9
        rename News _ _ _ _ => N9
        show CutEnd _ _ _ _ _ .next _
        exact .next F9 N9 ⟨kd, P, S, kvs, bu, ob, ok, fv, uv, t1, t2, t3, _, _, _, _, _, _, _, _, _, _, 0, P, ob, uv, t2, rfl, Z, Int.le_refl 0, ⟨by assumption, by assumption, by assumption, by assumption⟩, by rw [readS_zero Z.inv.good]; exact Z.recv, by rw [readS_zero Z.inv.good]; exact hob, Z.huv, ⟨z5, z6, z7, z8, z9, e6⟩, e4, all2 rfl (all2 rfl (all2 rfl (all2 rfl (all2 rfl (all2 rfl all0)))))⟩
      --DONE
    clear F0 N1 e4 e6 Z
    intro h1 tk1 m1 nx1 F1 N1 hJ
    show wpC _ _ _ _ _ { s₁ with heap := h1, toks := tk1 }
    obtain ⟨kd, P0, S, kvs, bu, ob0, ok, fv, uv0, t1, t2, t3, a0, b0, vs0, a, b, ta, tb, n1, n2, vs, k, P, ob, uv, t2', rfl, Z, hk9, so, H', hob, huv, ⟨z5, z6, z7, z8, z9, e6⟩, e4, hm⟩ := hJ
    have F0 := Fr_chain _ F1 hm
    clear F1 hm
    have z1 := Z.k1
    have z2 := Z.k2
    have z3 := Z.k3
    have z4 := Z.k4
    with_reducible refine wpC_cut F0 (TR w src sl bk (s₁.heap.objs.size + 1) r I oc oI ring bs room tr tB tm ts (40 * (i + 1)) dropB) ?_ ?_
    · --BEGIN
      intro QC9 hQC9
      have hrd9 : ∃ rd, rd = (readS k S).rd := ⟨_, rfl⟩
      obtain ⟨rd9, er9⟩ := hrd9
      rw [← er9] at hob
      with_reducible show wpAny _ _ _ _ _ _
      (try k_fold)
      cases bu with
      | none =>
        have huv' := huv
        obtain rfl : uv = .none := huv'
        k_steps
        rename Fr _ _ _ _ => F9
        rename News _ _ _ _ => N9
        show CutEnd _ _ _ _ _ .next _
        exact .next F9 N9 ⟨kd, P0, S, kvs, none, ob0, ok, fv, uv0, t1, t2, t3, _, _, _, _, _, _, _, _, _, _, k, P, ob, .none, t2', rfl, Z, hk9, so, H', by rw [← er9]; exact hob, rfl, ⟨z5, z6, z7, z8, z9, e6⟩, e4, all2 rfl (all2 rfl (all2 rfl (all2 rfl (all2 rfl (all2 rfl all0)))))⟩
      | some ub =>
        have huv' := huv
        obtain ⟨tub, rfl⟩ := huv'
        k_steps
        · rename Fr _ _ _ _ => F9
          rename News _ _ _ _ => N9
          rename Obj.IsDictOf (PySem.strKind _ _) _ _ => hd9
          show CutEnd _ _ _ _ _ .next _
          exact .next F9 N9 ⟨kd, P0, S, kvs, some ub, ob0, ok, fv, uv0, t1, t2, t3, _, _, _, _, _, _, _, _, _, _, k, P, _, .none, t2', rfl, Z, hk9, so, H', by rw [← er9]; exact hd9, by rw [← er9]; show OptV _ (if ub ≤ rd9 then none else some ub); rw [if_pos (by (first | lia | omega))]; exact rfl, ⟨z5, z6, z7, z8, z9, e6⟩, e4, all2 rfl (all2 rfl (all2 rfl (all2 rfl (all2 rfl (all2 rfl all0)))))⟩
        · rename Fr _ _ _ _ => F9
          rename News _ _ _ _ => N9
          show CutEnd _ _ _ _ _ .next _
          exact .next F9 N9 ⟨kd, P0, S, kvs, some ub, ob0, ok, fv, uv0, t1, t2, t3, _, _, _, _, _, _, _, _, _, _, k, P, _, _, t2', rfl, Z, hk9, so, H', by rw [← er9]; exact hob, by rw [← er9]; show OptV _ (if ub ≤ rd9 then none else some ub); rw [if_neg (by (first | lia | omega))]; exact ⟨_, rfl⟩, ⟨z5, z6, z7, z8, z9, e6⟩, e4, all2 rfl (all2 rfl (all2 rfl (all2 rfl (all2 rfl (all2 rfl all0)))))⟩
      --DONE
    clear F0 N1 e4 Z z1 z2 z3 z4 z5 z6 z7 z8 z9 e6 H' hob huv so hk9
    intro h1 tk1 m1 nx1 F1 N1 hJ
    show wpC _ _ _ _ _ { s₁ with heap := h1, toks := tk1 }
    obtain ⟨kd, P0, S, kvs, bu, ob0, ok, fv, uv0, t1, t2, t3, a0, b0, vs0, a, b, ta, tb, n1, n2, vs, k, P, ob, uv, t2', rfl, Z, hk9, so, H', hob, huv, ⟨z5, z6, z7, z8, z9, e6⟩, e4, hm⟩ := hJ
    have F0 := Fr_chain _ F1 hm
    clear F1 hm
    have z1 := Z.k1
    have z2 := Z.k2
    have z3 := Z.k3
    have z4 := Z.k4
    with_reducible refine wpC_cut F0 (TK w src sl bk (s₁.heap.objs.size + 1) r I oc oI ring bs room tr tB tm ts (40 * (i + 1))) ?_ ?_
    · --BEGIN
      intro QC9 hQC9
      with_reducible show wpAny _ _ _ _ _ _
      (try k_fold)
      k_steps
      show wpAny _ _ _ _ _ _
      have w1 := Z.eR
      have w2 := Z.eB
      have w3 := Z.eM
      subst w1 w2 w3
      k_dflt (refine' Spec.use (stands_spec (S := readS k S) (bu := dropB (readS k S).rd bu) hob Z.hok huv ((leftV_tell (show (readS k S).urg = bu from Z.inv.urg)).trans tell_drop.symm) H' (readS_ok Z.inv.good hk9) ⟨z5, z6, z7, z8, z9, e6⟩ (cell_ne_tup dO) hoI) ?B ?F ?X ?N ?T ?hk ?hd ?hu ?_; walk_at "mine use")
      rintro y9 n9 h9 tk9 F7 N7 ⟨P', rfl, H2, ⟨j1, j2, j3, j4, j5, j6⟩, rfl⟩
      clear F0 N1
      obtain ⟨JR, r1, r2, r3, r4, r5, r6, r7⟩ := read_law Z.inv hk9
      (try dsimp only)
      (try k_fold)
      k_steps
      rename Fr _ _ _ _ => F9
      rename News _ _ _ _ => N9
      show CutEnd _ _ _ _ _ .next _
      exact .next F9 N9 ⟨kd, P', leftS (readS k S), kvs, dropB (readS k S).rd bu, ob, ok, fv, uv, t1, t2', t3, _, _, _, _, _, _, _, rfl,
        ⟨JR, r5, r6, r7, by rw [r1, r2, r7, r3]; exact hob, Z.hok, Z.known, by rw [r4]; exact Z.hfv, huv, Z.hlen, Z.lo, H2, so, z1, z2, z3, z4, j1, j2, j3, j4, j5⟩, e4, j6, all2 rfl (all2 rfl (all2 rfl (all2 rfl (all2 rfl (all2 rfl all0)))))⟩
      --DONE
    clear F0 N1 e4 Z z1 z2 z3 z4 z5 z6 z7 z8 z9 e6 H' hob huv so hk9
    intro h1 tk1 m1 nx1 F1 N1 hJ
    show wpC _ _ _ _ _ { s₁ with heap := h1, toks := tk1 }
    obtain ⟨kd, P, S, kvs, bu, ob, ok, fv, uv, t1, t2, t3, a, b, ta, tb, n1, n2, vs, rfl, Z, e4, e6, hm⟩ := hJ
    with_reducible refine wpC_any (wpAny_execs_nil ?_)
    refine hQT9 _ _ (TurnC.next (nx := (src, srcO a b ta tb sl n1) :: (sl, rowO vs n2) :: (bk, ob) :: (kd, ok) :: (s₁.heap.objs.size + 1, oc) :: P) F1 (fun p hp => N1 p ?_) ?_ ⟨kd, P, S, kvs, bu, ob, ok, fv, uv, t1, t2, t3, a, b, ta, tb, n1, n2, vs, rfl, Z, hm⟩)
    · revert p; walk_at "mine in"
    · exact all2 e1 (all2 e2 (all2 e3 (all2 e4 (all2 e5 e6)))))


end Mine

theorem PySem.Challenge.cw_on0345_01_holds : PySem.Challenge.rw_on0345_01.Holds :=
  Mine.law_holds
