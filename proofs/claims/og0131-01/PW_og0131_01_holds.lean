import PyProof.Rows.All
import Wide.All
import OpenK.AllK
import Wide.FinOn
import PySem.Challenge.RW_og0131_01
open PySem PySem.W PySem.Calls PyProof.Rows
set_option Elab.async false
set_option maxRecDepth 100000
set_option maxHeartbeats 8000000
set_option linter.unusedVariables false
set_option linter.unusedSimpArgs false
namespace Mine
section

/-- the frames that hold a bytearray's buffer while they decode it -/
def isDec : Code → Bool
  | .builtin id _ => Builtin.Bytes.decodersThatHold.contains id
  | _ => false
/-- no such frame stands on the stack -/
def Clean (Γ : Ctx) : Prop := isDec Γ.code = false ∧ ∀ x ∈ Γ.below, isDec x.1 = false
/-- as wpAny, over the stacks without such frames -/
def wpG {α : Type} (M : Model) (A : Around) (t : Sem α) (Q : α → Shared → Prop) (E : Value → Shared → Prop) (s : Shared) : Prop :=
  ∀ Γ p, Γ.In A → Clean Γ → Sem.wp M Γ t (fun a _ s' => Q a s') (fun e _ s' => E e s') p s
abbrev ctx0 : Ctx := ⟨.builtin "claim.caller" {}, none, none, [], none⟩
theorem clean0 : Clean ctx0 := ⟨by decide +kernel, fun _ h => nomatch h⟩

section
variable {α β : Type} {M : Model} {A : Around} {E E' : Value → Shared → Prop} {s : Shared}
theorem wpG_of {t : Sem α} {Q : α → Shared → Prop} (h : wpAny M A t Q E s) : wpG M A t Q E s := fun Γ p hΓ _ => h Γ p hΓ
theorem wpG_mono {t : Sem α} {Q Q' : α → Shared → Prop} (h : wpG M A t Q E s) (hQ : ∀ a s, Q a s → Q' a s) (hE : ∀ e s, E e s → E' e s) : wpG M A t Q' E' s :=
  fun Γ p hΓ hc => Sem.wp_mono M Γ t (fun a _ s => hQ a s) (fun e _ s => hE e s) p s (h Γ p hΓ hc)
theorem wpG_bind {m : Sem α} {f : α → Sem β} {Q : β → Shared → Prop} (h : wpG M A m (fun a s' => wpG M A (f a) Q E s') E s) : wpG M A (m >>= f) Q E s := fun Γ p hΓ hc => by
  rw [Sem.wp_bind']
  exact Sem.wp_mono M Γ m (fun a p' s' h' => h' Γ p' hΓ hc) (fun _ _ _ h' => h') p s (h Γ p hΓ hc)
/-- a first part that asks nothing of the stack -/
theorem wpG_first {m : Sem α} {f : α → Sem β} {Q : β → Shared → Prop} (h : wpAny M A m (fun a s' => wpG M A (f a) Q E s') E s) : wpG M A (m >>= f) Q E s := wpG_bind (wpG_of h)
theorem wpG_pure {a : α} {Q : α → Shared → Prop} (h : Q a s) : wpG M A (pure a) Q E s := fun _ _ _ _ => h
end

theorem ends0 {c : ClaimW} {tree : List Value → Sem Fin} {w : World} {s : Shared} {free : Addr → Prop} {gens : Prop} {kept : Heap → Prop} (hz : s.asleep) (hgens : s.gens = #[])
    (hspec : ∀ args, c.pre args = true → WData.layableAll args = true → ∀ ord : List DictEntry → List DictEntry, (∀ l, (ord l).Perm l) →
      ∃ vs s₁, layAllW c.records (classAt s.heap) w.params ord args s = some (vs, s₁) ∧
        Sem.wp (model c.prog w) ctx0 (tree vs) (fun fin _ s' => ∃ f, fin = .done f ∧ (c.Ends s args vs s₁ (.ok f) s' ∧ s'.os = s.os ∧ AllBare s'.gens ∧ kept s'.heap))
          (fun e _ s' => c.Ends s args vs s₁ (.error e) s' ∧ s'.os = s.os ∧ AllBare s'.gens ∧ kept s'.heap) default s₁) :
    c.CallFrom (fun vs => ⟨tree vs, .builtin "claim.caller" {}, default, []⟩) w free gens kept s := by
  intro args hpre hlay ord hord
  obtain ⟨vs, s₁, hlaid, hrun⟩ := hspec args hpre hlay ord hord
  have hal := layAllW_rest _ _ _ hlaid
  obtain ⟨k, r, s₂, s₃, hsched, hr, hfo, hcase, hos, hkp⟩ := wp_halts_full (M := model c.prog w) (R := fun r s' => c.Ends s args vs s₁ r s' ∧ s'.os = s.os ∧ kept s'.heap) (Shared.asleep_of_life hal.2.2.2 hz)
    (Sem.wp_mono _ _ _ (fun fin p' s' x => by
      obtain ⟨f, e, h1, h2, h3, h4⟩ := x
      subst e
      exact ⟨⟨h1, h2, h4⟩, leftWithCleanup_false_of_bare h3⟩) (fun e p' s' x => ⟨⟨x.1, x.2.1, x.2.2.2⟩, leftWithCleanup_false_of_bare x.2.2.1⟩) _ _ hrun)
  obtain ⟨eh, _, _, eo, _⟩ := Shared.forget_eq hfo
  have hcase := hcase.congr eh
  rw [← eh] at hkp
  rw [← eo] at hos
  have hlife : s₃.heap.life = s.heap.life := (runN_life _ _ _ hr).trans hal.2.2.2
  refine ⟨vs, s₁, hlaid, k, _, s₃, hsched, ?_, (fun _ i x hx => by rw [hgens] at hx; simp at hx), hkp, by rw [hlife], Shared.rest_eq hos⟩
  rcases hcase with ⟨v, rfl, d1, d2, d3, d4, d5⟩ | ⟨e, ob, cls, rfl, d1, d2, d3, d4, d5⟩
  · exact .inl ⟨v, rfl, d1, d2, d3, fun b o y _ => d4 b o y, d5⟩
  · exact .inr ⟨e, ob, cls, rfl, d1, d2, d3, d4, fun b o y _ => d5 b o y⟩

/-- the walk that is asked: over the clean stacks alone -/
abbrev WalkG (q : Program) (loose : List Str) (XP : (Str → Option Value) → Heap → Prop) (YP : World → Heap → Prop) (r : RowW) (d : DefRec) (kwd : List (Str × Expr)) : Prop :=
  ∀ (w : World) (s₀ s₁ : Shared) (mg mb : Str → Option Value), Ground q loose r.records XP w s₀ mg mb s₁.heap → YP w s₁.heap → ∀ (a : Addr) (o : Obj) (pm cd doc dV kV : Value), s₁.heap.get? a = some o →
    o.data = .func { docDef d.name d.params d.body d.scope pm cd doc with defaults := dV, kwdefaults := kV } → s₁.heap.CodeRec cd d.name → Dflts mg s₁.heap d.params kwd dV kV → mg d.name = some (.ref a) → s₁.gens = #[] →
    ∀ (args : List WData) (vals : List Value) (as : List Addr), r.claim.pre args = true → WData.layableAll args = true → ReadsAllW r.records (classAt s₀.heap) s₁.heap vals args as → WellAll w.params s₁.heap vals args → (∀ a ∈ as, (a == sysModules) = false) →
      wpG (model r.prog w) callerA (call (.ref a) vals) (fun v s' => GoodWG r.claim (classAt s₀.heap) (ExcName.means s₀.heap) args s₁ (.ok (.ret v)) s')
        (fun e s' => GoodWG r.claim (classAt s₀.heap) (ExcName.means s₀.heap) args s₁ (.error e) s') s₁

/-- the head for a call that asks what holds a bytearray: the library's own head is over all stacks (its `holds_open`); `o_head` finds this one by its name -/
theorem PySem.W.holds_open {r : OpenRow} {q : Program} {loose : List Str} {Xt : Shared → Bool} {XP : (Str → Option Value) → Heap → Prop} {α : Type} {Yf : Shared → α} {Ya : World → α} {YP : World → Heap → Prop} {d : DefRec} {kwd : List (Str × Expr)} {N : Nat}
    (left : LeftO r.prog q loose Xt Yf Ya N) (hY : ∀ w s, Yf s = Ya w → YP w s.heap) (hYk : ∀ w h h', YP w h → (∀ b o, h.get? b = some o → h'.get? b = some o) → YP w h')
    (hX : ∀ s, Xt s = true → XP (s.heap.nsMap mainGlobals) s.heap) (hXk : ∀ mg h h', XP mg h → (∀ b o, h.get? b = some o → h'.get? b = some o) → XP mg h')
    (hdef : defOf q r.name = some (d, kwd)) (hp : r.prog.theDef r.name = some (d.params, d.body, d.scope)) (hk : kwWritten? d.params.kwonlyargs d.params.kw_defaults = some kwd) (hRf : ∀ s, Xt s = true → RecFacts r.records s.heap) (hwr : (!r.writes || r.records.isEmpty) = true)
    (k1 : r.wellSaid = true) (ok : (chainsOk q && opensWell r.prog && (frees r.toRowW && r.within.isEmpty)) = true) (hb : r.prog.bare) (hw : r.toRowW.promised)
    (call : WalkG q loose XP YP r.toRowW d kwd) : r.Holds := by
  obtain ⟨ok1, ok2⟩ := Bool.and_eq_true_iff.mp ok
  obtain ⟨hch, o1⟩ := Bool.and_eq_true_iff.mp ok1
  obtain ⟨k5, k6⟩ := Bool.and_eq_true_iff.mp ok2
  obtain ⟨hsame, hu, ha, hap, hm⟩ := frees_parts k5
  have hi := ident_freeW hu ha hap
  have hwi : r.toRowW.claim.within = [] := List.isEmpty_iff.mp k6
  refine ⟨k1, hw, ⟨hb, o1, by show r.makers.map _ = []; rw [hm]; rfl⟩, hw.witness, fun w => ⟨(left.behind hX hch w).1, fun s' hs' => ?_⟩⟩
  obtain ⟨s₀, hf, hg0, s, hT, hz, hgens, hg, G00, y⟩ := (left.behind (XP := fun mg h => XP mg h ∧ RecFacts r.records h) (fun s hs => ⟨hX s hs, hRf s hs⟩) hch w).2 s' hs'
  have G0 : Ground q loose [] XP w s (s.heap.nsMap mainGlobals) (s.heap.nsMap builtinsNs) s.heap := ⟨G00.T, G00.B, G00.D, G00.TE, G00.TD, G00.W, G00.X.1, G00.cls, G00.has, G00.apart, G00.once, G00.K⟩
  have RF := G00.X.2
  have hgens : s.gens = #[] := Array.eq_empty_of_size_eq_zero (beq_iff_eq.mp hgens)
  have G : Ground q loose r.records XP w s _ _ s.heap := RF.ground G0
  refine ⟨s₀, hf, hg0, s, hT, fun n hn => ?_, RF.1, RF.2.1, ends0 (c := r.toRowW.claim) hz hgens fun args hpre hlay ord hord => ?_⟩
  · obtain rfl : n = r.name := by split at hn <;> simp_all
    exact pinned_of_view hg G0 hdef hp hk
  · obtain ⟨⟨vs, s₁⟩, hlaid⟩ := Option.isSome_iff_exists.mp (layAllW_isSome (P := w.params) (ord := ord) G.has args r.args s (pre_splitW hpre).1)
    have keeps := layAllW_keeps _ _ _ hlaid
    have hal := layAllW_rest _ _ _ hlaid
    obtain ⟨as, hrd, hin, hold⟩ := reads_layAllW hord _ _ _ hlaid hlay s₁.heap (fun _ _ e => e)
    have L : Laid r.records w s s₁ args vs as := ⟨⟨ord, hord, hlaid⟩, hrd, hin, hold, keeps, hal.1.trans hgens, hal.2.2.1⟩
    have G₁ := G.keeps hXk keeps
    obtain ⟨a, o, pm, cd, doc, dV, kV, h1, h2, h3, h4, h5⟩ := G₁.fn hdef
    have W := call w s s₁ _ _ G₁ (hYk _ _ _ (hY w s y) keeps) a o pm cd doc dV kV h2 h3 h4 h5 (defOf_name hdef ▸ h1) L.gens args vs as hpre hlay L.reads L.well (L.low G.low)
    refine ⟨vs, s₁, hlaid, ?_⟩
    refine (wpG_first (M := model r.prog w) (A := callerA) (wpAny_nsGet G₁.T.g (by
      rw [h1]
      refine wpG_bind (wpG_mono W (fun v s' g => wpG_pure (a := Fin.done (.ret v)) ?_) fun e s' g => ?_)
      · have z := g.laid (c := r.toRowW.claim) hsame hwi hi L
        exact ⟨_, rfl, z.1, z.2.1, z.2.2, fun q => ⟨namesKept_of hT hg r.keeps keeps g.2.1.old, noTable hwr q⟩⟩
      · have z := g.laid (c := r.toRowW.claim) hsame hwi hi L
        exact ⟨z.1, z.2.1, z.2.2, fun q => ⟨namesKept_of hT hg r.keeps keeps g.2.1.old, noTable hwr q⟩⟩))) ctx0 default caller_in clean0

open_top hd for PySem.Challenge.rw_og0131_01
end
section

/-- entering a def of the text: the frame's own base is the heap without the touched objects -/
theorem enter {prog : Program} {w : World} {A : Around} {s : Shared} {h₀ : Heap} {K : Frag} {mg mb : Str → Option Value} {p : Program} {loose : List Str} {mean : ExcName → Option Value}
    {R : Result → Shared → Prop} {name qual : Str} {params : Arguments} {body : List Stmt} {scope : Scope} {dV kV doc pm cdv ct oc : Value} {an od : Option Addr} {osl : Array (Option Value)} {f : Addr} {args : Args} {binds : List (Str × Value)}
    (touched : List (Addr × Obj))
    (X : K.In h₀) (T : Top p loose mean mg mb h₀) (hst : h₀.StaysIn s.heap) (hT : ∀ q ∈ touched, h₀.get? q.1 = none ∧ s.heap.get? q.1 = some q.2)
    (ho : K.lookup f = some ⟨oc, od, .func (fnOf name qual params body scope dV kV doc pm an cdv ct), osl⟩) (hcd : codeIn K cdv qual = true) (hroom : A.depth < recursionLimit)
    (hbind : BindsTo s (fnOf name qual params body scope dV kV doc pm an cdv ct) args binds) (hloc : ∀ y ∈ binds, scope.names.lookup y.1 = some .local)
    (h : ∀ L' h₁, Fr (hideAll s.heap (touched.map (·.1))) L' h₁ (fun y => binds.reverse.lookup y) → News (hideAll s.heap (touched.map (·.1))) L' h₁ touched → K.In (hideAll s.heap (touched.map (·.1))) →
      Top p loose mean mg mb (hideAll s.heap (touched.map (·.1))) → L' = s.heap.objs.size →
      wpAny (model prog w) (A.deeper (envOf qual scope L' f cdv)) (execs body (envOf qual scope L' f cdv))
        (fun fl s' => R (.ok (.ret (match fl with | .ret v => v | _ => .none))) s') (fun _ _ => False)
        { s with heap := h₁, toks := s.toks + binds.length })
    (hco : scope.isCoroutine = false) (hgen : scope.isGenerator = false) (hk : scope.kind = .function) (hcell : ∀ x ∈ scope.names, x.2 ≠ .cell) :
    codeAny (model prog w) A (.call (.ref f) args) R s := by
  have st : h₀.StaysIn (hideAll s.heap (touched.map (·.1))) := fun b o e => hideAll_get _ (hst b o e) fun q => by
    obtain ⟨r, hr, rfl⟩ := List.mem_map.mp q
    rw [(hT r hr).1] at e; cases e
  have Xs : K.In s.heap := X.keeps hst
  have Ts : Top p loose mean mg mb s.heap := T.keeps hst
  refine codeAny_call_def (fd := fnOf name qual params body scope dV kV doc pm an cdv ct) (body := body) (binds := binds) hroom (Xs _ _ ho) rfl Ts.nolimit (codeRec_of Xs hcd) rfl hbind hcell hloc (fun h₁ hns hk₁ => ?_) hco hgen hk
  refine wpAny_mono (h s.heap.objs.size h₁ ⟨hns, fun b o e => hk₁ b o (of_hideAll _ e), Nat.le_of_eq (hideAll_size _ _)⟩
    (fun q hq => ⟨hk₁ _ _ (hT q hq).2, Nat.ne_of_lt (Heap.lt_size (hT q hq).2), hideAll_none _ (List.mem_map_of_mem hq)⟩) (X.keeps st) (T.keeps st) rfl) (fun _ _ x => x) fun _ _ y => y.elim

/-- a pure def -/
theorem enter0 {prog : Program} {w : World} {A : Around} {s : Shared} {h₀ : Heap} {K : Frag} {mg mb : Str → Option Value} {p : Program} {loose : List Str} {mean : ExcName → Option Value}
    {Q E : Value → Shared → Prop} {name qual : Str} {params : Arguments} {body : List Stmt} {scope : Scope} {dV kV doc pm cdv ct oc : Value} {an od : Option Addr} {osl : Array (Option Value)} {f : Addr} {pos : List Value} {binds : List (Str × Value)}
    (X : K.In h₀) (T : Top p loose mean mg mb h₀) (hst : h₀.StaysIn s.heap)
    (ho : K.lookup f = some ⟨oc, od, .func (fnOf name qual params body scope dV kV doc pm an cdv ct), osl⟩) (hcd : codeIn K cdv qual = true) (hroom : A.depth < recursionLimit)
    (hbind : BindsTo s (fnOf name qual params body scope dV kV doc pm an cdv ct) ⟨pos, []⟩ binds) (hloc : ∀ y ∈ binds, scope.names.lookup y.1 = some .local)
    (h : ∀ L' h₁, Fr s.heap L' h₁ (fun y => binds.reverse.lookup y) → News s.heap L' h₁ [] → K.In s.heap → Top p loose mean mg mb s.heap → L' = s.heap.objs.size →
      wpAny (model prog w) (A.deeper (envOf qual scope L' f cdv)) (execs body (envOf qual scope L' f cdv))
        (fun fl s' => Q (match fl with | .ret v => v | _ => .none) s') (fun _ _ => False)
        { s with heap := h₁, toks := s.toks + binds.length })
    (hco : scope.isCoroutine = false) (hgen : scope.isGenerator = false) (hk : scope.kind = .function) (hcell : ∀ x ∈ scope.names, x.2 ≠ .cell) :
    wpAny (model prog w) A (call (.ref f) pos []) Q E s :=
  wpAny_call (enter [] X T hst (fun _ hq => nomatch hq) ho hcd hroom hbind hloc h hco hgen hk hcell)

theorem enterT {prog : Program} {w : World} {A : Around} {s : Shared} {h₀ : Heap} {K : Frag} {mg mb : Str → Option Value} {p : Program} {loose : List Str} {mean : ExcName → Option Value}
    {Q E : Value → Shared → Prop} {name qual : Str} {params : Arguments} {body : List Stmt} {scope : Scope} {dV kV doc pm cdv ct oc : Value} {an od : Option Addr} {osl : Array (Option Value)} {f : Addr} {pos : List Value} {binds : List (Str × Value)}
    (touched : List (Addr × Obj))
    (X : K.In h₀) (T : Top p loose mean mg mb h₀) (hst : h₀.StaysIn s.heap) (hT : ∀ q ∈ touched, h₀.get? q.1 = none ∧ s.heap.get? q.1 = some q.2)
    (ho : K.lookup f = some ⟨oc, od, .func (fnOf name qual params body scope dV kV doc pm an cdv ct), osl⟩) (hcd : codeIn K cdv qual = true) (hroom : A.depth < recursionLimit)
    (hbind : BindsTo s (fnOf name qual params body scope dV kV doc pm an cdv ct) ⟨pos, []⟩ binds) (hloc : ∀ y ∈ binds, scope.names.lookup y.1 = some .local)
    (h : ∀ L' h₁, Fr (hideAll s.heap (touched.map (·.1))) L' h₁ (fun y => binds.reverse.lookup y) → News (hideAll s.heap (touched.map (·.1))) L' h₁ touched → K.In (hideAll s.heap (touched.map (·.1))) →
      Top p loose mean mg mb (hideAll s.heap (touched.map (·.1))) → L' = s.heap.objs.size →
      wpAny (model prog w) (A.deeper (envOf qual scope L' f cdv)) (execs body (envOf qual scope L' f cdv))
        (fun fl s' => Q (match fl with | .ret v => v | _ => .none) s') (fun _ _ => False)
        { s with heap := h₁, toks := s.toks + binds.length })
    (hco : scope.isCoroutine = false) (hgen : scope.isGenerator = false) (hk : scope.kind = .function) (hcell : ∀ x ∈ scope.names, x.2 ≠ .cell) :
    wpAny (model prog w) A (call (.ref f) pos []) Q E s :=
  wpAny_call (enter touched X T hst hT ho hcd hroom hbind hloc h hco hgen hk hcell)

/-- the around of a contract -/
abbrev arnd (dp un : Nat) (fr : Option (List Env)) (gd : Option (List Code)) : Around := { handled := none, depth := dp, frames := fr, guards := gd, units := un }

/-- behind a call that touches the objects ts alone -/
theorem fr_after {h₀ h h' : Heap} {L : Addr} {m : Str → Option Value} {ts : List Addr} (F : Fr h₀ L h m) (hst : (hideAll h ts).StaysIn h') (h0 : ∀ a ∈ ts, h₀.get? a = none) (hL : L ∉ ts) : Fr h₀ L h' m := by
  obtain ⟨oL, es, ep, ho, r⟩ := F.ns
  exact ⟨⟨oL, es, ep, hst _ _ (hideAll_get _ ho hL), r⟩, fun b o e => hst _ _ (hideAll_get _ (F.keep b o e) fun q => by rw [h0 b q] at e; cases e), F.above⟩
theorem fr_after0 {h₀ h h' : Heap} {L : Addr} {m : Str → Option Value} (F : Fr h₀ L h m) (hst : h.StaysIn h') : Fr h₀ L h' m :=
  fr_after (ts := []) F hst (fun _ q => nomatch q) (fun q => nomatch q)
theorem news_after {h₀ h h' : Heap} {L : Addr} {ts : List Addr} {news : List (Addr × Obj)} (N : News h₀ L h news) (hst : (hideAll h ts).StaysIn h') (hn : ∀ q ∈ news, q.1 ∉ ts) : News h₀ L h' news :=
  fun q hq => ⟨hst _ _ (hideAll_get _ (N q hq).1 (hn q hq)), (N q hq).2⟩
theorem news_after0 {h₀ h h' : Heap} {L : Addr} {news : List (Addr × Obj)} (N : News h₀ L h news) (hst : h.StaysIn h') : News h₀ L h' news :=
  fun q hq => ⟨hst _ _ (N q hq).1, (N q hq).2⟩
/-- a new object onto the ledger -/
theorem news_cons {h₀ h h' : Heap} {L l : Addr} {o : Obj} {m : Str → Option Value} {news : List (Addr × Obj)} (F : Fr h₀ L h m) (N : News h₀ L h' news) (hl : h.objs.size ≤ l) (ho : h'.get? l = some o) : News h₀ L h' ((l, o) :: news) := by
  intro q hq
  rcases List.mem_cons.mp hq with rfl | hq
  · refine ⟨ho, fun e => ?_, ?_⟩
    · have := F.ns.lt; rw [← e] at this; exact absurd this (Nat.not_lt.mpr hl)
    · cases e : h₀.get? l with
      | none => rfl
      | some o' => exact absurd (Heap.lt_size (F.keep _ _ e)) (Nat.not_lt.mpr hl)
  · exact N q hq
theorem news_cons' {h₀ h h' : Heap} {L l : Addr} {o : Obj} {m : Str → Option Value} {news : List (Addr × Obj)} (F : Fr h₀ L h m) (N : News h₀ L h' news) (hl : h.get? l = none) (ho : h'.get? l = some o) : News h₀ L h' ((l, o) :: news) := by
  intro q hq
  rcases List.mem_cons.mp hq with rfl | hq
  · refine ⟨ho, fun e => ?_, ?_⟩
    · obtain ⟨oL, _, _, q, _⟩ := F.ns; rw [← e, hl] at q; cases q
    · cases e : h₀.get? l with
      | none => rfl
      | some o' => rw [F.keep _ _ e] at hl; cases hl
  · exact N q hq
theorem news_ne {h₀ h : Heap} {L l : Addr} {news : List (Addr × Obj)} (N : News h₀ L h news) (hl : h.get? l = none) : ∀ q ∈ news, @Ne Nat q.1 l := fun q hq e => by
  have := (N q hq).1; rw [show q.1 = l from e, hl] at this; cases this
/-- the touched objects came back as they were -/
theorem stays_join {h h' : Heap} (ts : List (Addr × Obj)) (hst : (hideAll h (ts.map (·.1))).StaysIn h') (h1 : ∀ q ∈ ts, h.get? q.1 = some q.2) (h2 : ∀ q ∈ ts, h'.get? q.1 = some q.2) : h.StaysIn h' := fun a o e => by
  by_cases q : a ∈ ts.map (·.1)
  · obtain ⟨r, hr, rfl⟩ := List.mem_map.mp q
    have := h1 r hr; rw [e] at this; rw [Option.some.inj this]; exact h2 r hr
  · exact hst a o (hideAll_get _ e q)
theorem fresh_of {h g : Heap} {as : List Addr} {l : Addr} (hg : hideAll h as = g) (hl : g.get? l = none) (hn : l ∉ as) : h.get? l = none := by
  cases e : h.get? l with
  | none => rfl
  | some o => have := hideAll_get as e hn; rw [hg, hl] at this; cases this
theorem name_first {h₀ h : Heap} {L l : Addr} {o : Obj} {r : List (Addr × Obj)} {P : Prop} (_ : News h₀ L h ((l, o) :: r)) (k : ∀ l', l' = l → P) : P := k l rfl
theorem name_first2 {h₀ h : Heap} {L l : Addr} {o : Obj} {r : List (Addr × Obj)} {P : Prop} (_ : News h₀ L h ((l, o) :: r)) (k : ∀ l' o', l' = l → o' = o → P) : P := k l o rfl rfl
theorem news_lt {h₀ h : Heap} {L l : Addr} {news : List (Addr × Obj)} (N : News h₀ L h news) (hl : h.objs.size ≤ l) : ∀ q ∈ news, q.1 < l := fun q hq => Nat.lt_of_lt_of_le (Heap.lt_size (N q hq).1) hl
theorem news_sub {h₀ h : Heap} {L : Addr} {news news' : List (Addr × Obj)} (N : News h₀ L h news) (hs : ∀ q ∈ news', q ∈ news) : News h₀ L h news' := fun q hq => N q (hs q hq)
theorem room_lt {d k N j c : Nat} (h : d + k < N) (e : c + j ≤ k) : d + c + j < N := Nat.lt_of_le_of_lt (Nat.add_assoc d c j ▸ Nat.add_le_add_left e d) h
theorem ms_cons {x : Addr × Obj} {l' l : List (Addr × Obj)} (h : x ∈ l) (r : ∀ q ∈ l', q ∈ l) : ∀ q ∈ x :: l', q ∈ l := List.forall_mem_cons.mpr ⟨h, r⟩
theorem ms_skip {x : Addr × Obj} {l' l : List (Addr × Obj)} (r : ∀ q ∈ l', q ∈ l) : ∀ q ∈ l', q ∈ x :: l := fun q hq => .tail _ (r q hq)
theorem ms_here {l : List (Addr × Obj)} : ∀ q ∈ l, q ∈ l := fun _ h => h
theorem ms_nil {l : List (Addr × Obj)} : ∀ q ∈ ([] : List (Addr × Obj)), q ∈ l := fun _ h => nomatch h
theorem stays_trans {h h' h'' : Heap} (a : h.StaysIn h') (b : h'.StaysIn h'') : h.StaysIn h'' := fun x o e => b x o (a x o e)

def Stop (p : Prop) : Prop := p
theorem stop {p : Prop} (h : Stop p) : p := h
theorem unstop {p : Prop} (h : p) : Stop p := h


theorem len_news {prog : Program} {w : World} {A : Around} {E : Value → Shared → Prop} {s : Shared} {h₀ : Heap} {L a : Addr} {news : List (Addr × Obj)} {vs : List Value} {n : Nat} {Q : Value → Shared → Prop}
    (N : News h₀ L s.heap news) (hm : (a, PySem.W.listOf (List.toArray vs) n) ∈ news) (hfit : vs.length < 2 ^ 62) (h : Q (.int vs.length (s.toks + 1)) { s with toks := s.toks + 1 + 1 }) :
    wpAny (model prog w) A (call (.builtin "len") [.ref a]) Q E s :=
  call_len_list ⟨_, N.get hm, rfl, n, rfl⟩ (by rw [List.size_toArray]; omega) (by rw [List.size_toArray]; exact h)
theorem append_news {prog : Program} {w : World} {A : Around} {E : Value → Shared → Prop} {s : Shared} {h₀ : Heap} {L D : Addr} {m : Str → Option Value} {news news' : List (Addr × Obj)} {vs : List Value} {n : Nat} {x : Value} {Q : Value → Shared → Prop}
    (F : Fr h₀ L s.heap m) (N : News h₀ L s.heap news) (U : Upd D (PySem.W.listOf (List.toArray vs) n) (PySem.W.listOf (List.toArray (vs ++ [x])) (n + 1)) news news') (hsz : vs.length ≤ 1000000)
    (h : ∀ h', Fr h₀ L h' m → News h₀ L h' news' → Q .none { s with heap := h' }) : wpAny (model prog w) A (call (.builtin "list.append") [.ref D, x]) Q E s :=
  append_K F N (by rw [List.push_toArray]; exact U) h (by rw [List.size_toArray, sizeLine_eq]; omega)
theorem item_news {prog : Program} {w : World} {A : Around} {E : Value → Shared → Prop} {s : Shared} {h₀ : Heap} {L a : Addr} {news : List (Addr × Obj)} {vs : List Value} {n : Nat} {i : Int} {u : Tok} {v : Value} {value slice : Expr} {Q : Value → Shared → Prop}
    (N : News h₀ L s.heap news) (hm : (a, PySem.W.listOf (List.toArray vs) n) ∈ news) (h0 : 0 ≤ i) (h1 : i < 1000000) (hv : vs[i.toNat]? = some v) (h : Q v s)
    (hs : subscripted slice false (.ref a) (.int i u) = operate [.ref a, .int i u] (getItem (.ref a) (.int i u)) := by with_unfolding_all rfl) :
    wpAny (model prog w) A (subscriptTail value slice (.ref a) (.int i u)) Q E s :=
  have hL : s.heap.IsList a (List.toArray vs) := ⟨_, N.get hm, rfl, n, rfl⟩
  tail_any hL.typeIs slot_list_getitem.lookup (wpAny_getItem_list hL h0 (by omega) (by simpa using hv) h) hs
/-- a name holds this int -/
def IntIs (m : Str → Option Value) (x : Str) (i : Int) : Prop := ∃ v t, m x = some (.int v t) ∧ v = i
theorem ldX {M : Model} {A : Around} {E : Value → Shared → Prop} {s : Shared} {h₀ : Heap} {L a : Addr} {m : Str → Option Value} {cn : Str} {cs : Scope} {ccd : Value} {cl : List (Str × Addr)} {x : Str} {v : Value} {Q : Value → Shared → Prop}
    (F : Fr h₀ L s.heap m) (hv : m x = some v) (h : Q v s) (hk : cs.kind = .function := by rfl) (hx : (envX cn cs L a ccd cl).kindOf x = some .local := by rfl) :
    wpAny M A (loadName (envX cn cs L a ccd cl) x) Q E s := wpAny_loadName_local hk hx F.ns hv h

section loops
variable {prog : Program} {w : World} {A : Around} {s : Shared} {env : Env} {h₀ : Heap} {L : Addr}

/-- a turn's end -/
def LEnd (h₀ : Heap) (L : Addr) (J : (Str → Option Value) → List (Addr × Obj) → Prop) (s : Shared) (Q : Flow → Shared → Prop) (f : Flow) (s' : Shared) : Prop :=
  match f with
  | .ret v => Q (.ret v) s'
  | .brk => Q .next s'
  | _ => ∃ h' tk m' news', s' = { s with heap := h', toks := tk } ∧ Fr h₀ L h' m' ∧ News h₀ L h' news' ∧ J m' news'
theorem LEnd.intro {J : (Str → Option Value) → List (Addr × Obj) → Prop} {Q : Flow → Shared → Prop} {h' : Heap} {tk : Nat} {m' : Str → Option Value} {news' : List (Addr × Obj)}
    (F : Fr h₀ L h' m') (N : News h₀ L h' news') (hj : J m' news') : LEnd h₀ L J s Q .next { s with heap := h', toks := tk } := ⟨h', tk, m', news', rfl, F, N, hj⟩

/-- a while by an invariant over the frame and the ledger, with a measure -/
theorem while_inv {test : Expr} {body : List Stmt} {pos : Pos} {Q : Flow → Shared → Prop} (J : Nat → (Str → Option Value) → List (Addr × Obj) → Prop) (n : Nat) {m : Str → Option Value} {news : List (Addr × Obj)}
    (F : Fr h₀ L s.heap m) (N : News h₀ L s.heap news) (hj : J n m news)
    (turn : ∀ n h tk m news, Fr h₀ L h m → News h₀ L h news → J n m news → ∀ QT : Flow → Shared → Prop, (∀ f s', LEnd h₀ L (fun m' news' => ∃ n', n' < n ∧ J n' m' news') s Q f s' → QT f s') →
      wpAny (model prog w) A (isTrue test env (eval test env)) (fun b s₂ =>
        if b then wpAny (model prog w) A (execs body env) QT (fun _ _ => False) s₂
        else Q .next s₂) (fun _ _ => False) { s with heap := h, toks := tk }) {E : Value → Shared → Prop} :
    wpAny (model prog w) A (exec (.While test body [] pos) env) Q E s := by
  refine wpAny_While (codeAny_whileLoop (fun n s' => ∃ h tk m news, s' = { s with heap := h, toks := tk } ∧ Fr h₀ L h m ∧ News h₀ L h news ∧ J n m news) ?_ n ⟨s.heap, s.toks, m, news, rfl, F, N, hj⟩)
  rintro n _ ⟨h, tk, m, news, rfl, F, N, hj⟩
  refine wpAny_mono (turn n h tk m news F N hj _ fun _ _ x => x) (fun b s₂ h₂ => ?_) fun _ _ e => e.elim
  cases b with
  | false =>
    simp only [Bool.false_eq_true, if_false] at h₂ ⊢
    exact wpAny_execs_nil h₂
  | true =>
    simp only [if_true] at h₂ ⊢
    refine wpAny_mono h₂ (fun f s₃ h₃ => ?_) fun _ _ e => e.elim
    cases f with
    | ret v => exact h₃
    | brk => exact h₃
    | next =>
      obtain ⟨h', tk, m', news', rfl, F', N', n', hn, hj'⟩ := h₃
      exact ⟨n', hn, h', tk, m', news', rfl, F', N', hj'⟩
    | cont =>
      obtain ⟨h', tk, m', news', rfl, F', N', n', hn, hj'⟩ := h₃
      exact ⟨n', hn, h', tk, m', news', rfl, F', N', hj'⟩

/-- what runs a turn of a for, to an end -/
abbrev GoT := Value → Shared → (Flow → Shared → Prop) → Prop
/-- what a for's head hands on: something that walks, an invariant over the frame and the ledger, a turn that keeps it -/
inductive ForHd (prog : Program) (w : World) (A : Around) (h₀ : Heap) (L : Addr) (Go : GoT) (Q : Flow → Shared → Prop) (it : Value) (s₂ : Shared) : Prop
  | mk (I : Addr) (fp wr : List Addr) (n : Nat) (P : Nat → Value → Prop) (St : Nat → Heap → Prop) (m : Str → Option Value) (news : List (Addr × Obj)) (J : Nat → (Str → Option Value) → List (Addr × Obj) → Prop) (ic : Obj → Prop) (keep : List (Addr × Obj)) :
    (it = .ref I) →
    (Walks prog w A I fp wr n P St) →
    (wr = [I]) →
    (L ≠ I) →
    (h₀.get? I = none) →
    (St 0 s₂.heap) →
    ((∀ i h, St i h → ∃ o, h.get? I = some o ∧ ic o)) →
    (Fr h₀ L s₂.heap m) →
    (News h₀ L s₂.heap news) →
    (J 0 m news) →
    ((∀ i m nw, J i m nw → ∀ q ∈ nw, ¬ ic q.2)) →
    ((∀ b ∈ fp, b = I ∨ (∃ o, h₀.get? b = some o) ∨ ∃ o, (b, o) ∈ keep)) →
    ((∀ i m nw, J i m nw → ∀ q ∈ keep, q ∈ nw)) →
    ((∀ i v h tk m₁ nw o, i < n → P i v → J i m₁ nw → ic o → Fr h₀ L h m₁ → News h₀ L h ((I, o) :: nw) → ∀ QT : Flow → Shared → Prop, (∀ f s', LEnd h₀ L (fun m' nw' => ∃ nx, nw' = (I, o) :: nx ∧ J (i + 1) m' nx) s₂ Q f s' → QT f s') → Go v { s₂ with heap := h, toks := tk } QT)) →
    ((∀ h' tk m' nw, Fr h₀ L h' m' → News h₀ L h' nw → J n m' nw → Q .next { s₂ with heap := h', toks := tk })) → ForHd prog w A h₀ L Go Q it s₂
/-- a turn's end in the loop's own words -/
def TurnEnd (Inv : Nat → Shared → Prop) (Q : Flow → Shared → Prop) (k : Nat) (f : Flow) (s' : Shared) : Prop := match f with
  | .next | .cont => ∃ m, m < k ∧ Inv m s'
  | .brk => Q .next s'
  | .ret v => Q (.ret v) s'
theorem ForHd.inv {Go : GoT} {Q : Flow → Shared → Prop} {it : Value} (h₂ : ForHd prog w A h₀ L Go Q it s) :
    ∃ (Inv : Nat → Shared → Prop) (k₀ : Nat), Inv k₀ s ∧ ∀ k s', Inv k s' → wpAny (model prog w) A (pyNext it) (fun r s₁ => match r with
      | none => Q .next s₁
      | some v => Go v s₁ (TurnEnd Inv Q k)) (fun _ _ => False) s' := by
  obtain ⟨I, fp, wr, n, P, St, m, news, J, ic, keep, rfl, W, rfl, hLI, hI, hst, hic, F, N, h0, hJc, hfp, hkeep, turn, done⟩ := h₂
  have old : ∀ b o, h₀.get? b = some o → b ∉ [I] := fun b o e hb => by rw [List.mem_singleton.mp hb, hI] at e; cases e
  refine ⟨fun k s' => ∃ h' tk m' nw i, s' = { s with heap := h', toks := tk } ∧ St i h' ∧ Fr h₀ L h' m' ∧ News h₀ L h' nw ∧ J i m' nw ∧ i ≤ n ∧ k = n + 1 - i, n + 1,
    ⟨s.heap, s.toks, m, news, 0, rfl, hst, F, N, h0, Nat.zero_le _, rfl⟩, ?_⟩
  rintro k s' ⟨h', tk, m', nw, i, rfl, hst', F', N', hJ, hi, rfl⟩
  have hnI : ∀ q ∈ nw, q.1 ∉ [I] := fun q hq e => by
    obtain ⟨o, ho, hc⟩ := hic i h' hst'
    have := (N' q hq).1
    rw [List.mem_singleton.mp e, ho] at this
    exact hJc i m' nw hJ q hq ((Option.some.inj this) ▸ hc)
  have next : ∀ h₁ : Heap, (∀ b o, b ∉ [I] → h'.get? b = some o → h₁.get? b = some o) → Fr h₀ L h₁ m' ∧ News h₀ L h₁ nw := fun h₁ hk₁ =>
    ⟨⟨F'.ns.at' fun o e => hk₁ _ o (fun q => hLI (List.mem_singleton.mp q)) e, fun b o e => hk₁ b o (old b o e) (F'.keep b o e), F'.above⟩, fun q hq => ⟨hk₁ _ _ (hnI q hq) (N' q hq).1, (N' q hq).2⟩⟩
  by_cases hlt : i < n
  · refine W.item i _ _ _ hlt hst' fun v h₁ tk₁ hP hst₁ hk₁ => ?_
    obtain ⟨F₁, N₁⟩ := next h₁ hk₁
    obtain ⟨o, ho, hc⟩ := hic _ _ hst₁
    have N₂ : News h₀ L h₁ ((I, o) :: nw) := fun q hq => by
      rcases List.mem_cons.mp hq with rfl | hq
      · exact ⟨ho, Ne.symm hLI, hI⟩
      · exact N₁ q hq
    refine turn i v h₁ tk₁ m' nw o hlt hP hJ hc F₁ N₂ _ fun f s₄ h₄ => ?_
    have fin : (∃ h' tk m' nw', s₄ = { s with heap := h', toks := tk } ∧ Fr h₀ L h' m' ∧ News h₀ L h' nw' ∧ ∃ nx, nw' = (I, o) :: nx ∧ J (i + 1) m' nx) →
        ∃ m, m < n + 1 - i ∧ ∃ h' tk m' nw j, s₄ = { s with heap := h', toks := tk } ∧ St j h' ∧ Fr h₀ L h' m' ∧ News h₀ L h' nw ∧ J j m' nw ∧ j ≤ n ∧ m = n + 1 - j := by
      rintro ⟨h₅, tk₄, m₄, _, rfl, F₄, N₄, nx, rfl, hj₄⟩
      refine ⟨n + 1 - (i + 1), by omega, h₅, tk₄, m₄, nx, i + 1, rfl, ?_, F₄, news_sub N₄ fun q hq => .tail _ hq, hj₄, hlt, rfl⟩
      refine W.frame _ _ _ hst₁ fun b hb o' e => ?_
      rcases hfp b hb with rfl | ⟨o₂, h₂⟩ | ⟨o₂, h₂⟩
      · rw [ho] at e; rw [← Option.some.inj e]; exact (N₄ _ (.head _)).1
      · have := F₁.keep b o₂ h₂; rw [e] at this; rw [Option.some.inj this]; exact F₄.keep b o₂ h₂
      · have h5 := (N₁ _ (hkeep i m' nw hJ _ h₂)).1
        have h6 := (N₄ _ (List.Mem.tail _ (hkeep (i + 1) m₄ nx hj₄ _ h₂))).1
        rw [e] at h5; rw [Option.some.inj h5]; exact h6
    cases f with
    | ret v => exact h₄
    | brk => exact h₄
    | next => exact fin h₄
    | cont => exact fin h₄
  · have hin : i = n := by omega
    subst hin
    refine W.done _ _ _ hst' fun h₁ tk₁ hk₁ => ?_
    obtain ⟨F₁, N₁⟩ := next h₁ hk₁
    exact done h₁ tk₁ m' nw F₁ N₁ hJ
def goA (prog : Program) (w : World) (A : Around) (env : Env) (target : Expr) (body : List Stmt) : GoT := fun v s QT =>
  wpAny (model prog w) A (assign target env v) (fun _ s₃ => wpAny (model prog w) A (execs body env) QT (fun _ _ => False) s₃) (fun _ _ => False) s
/-- a for over anything that walks, by an invariant over the frame and the ledger -/
theorem for_inv {target iter : Expr} {body : List Stmt} {pos : Pos} {Q : Flow → Shared → Prop}
    (h : wpAny (model prog w) A (eval iter env) (fun xv s₁ => wpAny (model prog w) A (pyIter xv) (fun it s₂ => ForHd prog w A h₀ L (goA prog w A env target body) Q it s₂) (fun _ _ => False) s₁) (fun _ _ => False) s)
    (hs : ∀ x, foldedSetIterable iter env x = pure x := by intro _; rfl) (ht : ∀ it v, letOwnedTupleGo target it v = pure () := by intro _ _; rfl) {E : Value → Shared → Prop} :
    wpAny (model prog w) A (exec (.For target iter body [] pos) env) Q E s := by
  refine wpAny_For (wpAny_mono h (fun xv s₁ h₁ => wpAny_mono h₁ (fun it s₂ h₂ => ?_) fun _ _ e => e.elim) fun _ _ e => e.elim) hs
  obtain ⟨Inv, k₀, h0, go⟩ := h₂.inv
  refine codeAny_forLoop Inv (fun k s' hI => wpAny_mono (go k s' hI) (fun r s₁ x => ?_) fun _ _ e => e.elim) k₀ h0 (ht _)
  cases r with
  | none => exact wpAny_execs_nil x
  | some v => exact wpAny_mono x (fun _ s₃ h₃ => wpAny_mono h₃ (fun f s₄ h₄ => by cases f <;> exact h₄) fun _ _ e => e.elim) fun _ _ e => e.elim
theorem iter_listX {Go : GoT} {Q : Flow → Shared → Prop} {l : Addr} {ws : List Value} {n₀ : Nat} {m : Str → Option Value} {news : List (Addr × Obj)}
    (J : Nat → (Str → Option Value) → List (Addr × Obj) → Prop) (hh : A.handled = none) (F : Fr h₀ L s.heap m) (N : News h₀ L s.heap news) (hj : J 0 m news)
    (hJc : ∀ i m nw, J i m nw → ∀ q ∈ nw, q.2.cls ≠ .type "list_iterator") (hkeep : ∀ i m nw, J i m nw → (l, PySem.W.listOf (List.toArray ws) n₀) ∈ nw)
    (turn : ∀ i v h tk m₁ nw o I, ws[i]? = some v → J i m₁ nw → o.cls = .type "list_iterator" → Fr h₀ L h m₁ → News h₀ L h ((I, o) :: nw) → (∀ q ∈ nw, @Ne Nat q.1 I) →
        ∀ QT : Flow → Shared → Prop, (∀ f s', LEnd h₀ L (fun m' nw' => ∃ nx, nw' = (I, o) :: nx ∧ J (i + 1) m' nx) s Q f s' → QT f s') → Go v { s with heap := h, toks := tk } QT)
    (done : ∀ h' tk m' nw, Fr h₀ L h' m' → News h₀ L h' nw → J ws.length m' nw → Q .next { s with heap := h', toks := tk }) :
    wpAny (model prog w) A (pyIter (.ref l)) (fun it s₂ => ForHd prog w A h₀ L Go Q it s₂) (fun _ _ => False) s := by
  have hml := hkeep 0 m news hj
  have hls : s.heap.IsList l (List.toArray ws) := ⟨_, N.get hml, rfl, n₀, rfl⟩
  have hne : l ≠ s.heap.objs.size := Nat.ne_of_lt (Heap.lt_size (N.get hml))
  refine wpAny_pyIter_list hls ?_
  have W := Walks.list (prog := prog) (w := w) hh s.heap.objs.size l hne (List.toArray ws)
  have hsz : (List.toArray ws).size = ws.length := List.size_toArray ..
  rw [hsz] at W
  refine ⟨_, _, _, ws.length, _, _, m, news, J, (fun o => o.cls = .type "list_iterator"), [(l, PySem.W.listOf (List.toArray ws) n₀)], rfl, W, rfl, Nat.ne_of_lt F.ns.lt, next_is_new F,
    ⟨⟨_, Heap.get?_push_size _ rfl, rfl, rfl⟩, hls.at fun o e => Heap.get?_push_of_some _ e⟩, fun i h st => ?_, F.push _, (fun q hq => ⟨Heap.get?_push_of_some _ (N q hq).1, (N q hq).2⟩), hj, hJc, ?_, ?_, ?_, ?_⟩
  · obtain ⟨⟨o, ho, hc, _⟩, _⟩ := st; exact ⟨o, ho, hc⟩
  · intro b hb
    simp only [List.mem_cons, List.not_mem_nil, or_false] at hb
    rcases hb with rfl | rfl
    · exact .inl rfl
    · exact .inr (.inr ⟨_, .head _⟩)
  · intro i m nw hJ q hq
    rw [List.mem_singleton.mp hq]; exact hkeep i m nw hJ
  · intro i v h tk m₁ nw o hi hv hJ hc F₁ N₁
    refine turn i v h tk m₁ nw o _ (by simpa using hv) hJ hc F₁ N₁ fun q hq e => ?_
    have h1 := (N₁ q (.tail _ hq)).1
    have h2 := (N₁ _ (.head _)).1
    dsimp only at h2
    rw [show q.1 = s.heap.objs.size from e, h2] at h1
    exact hJc i m₁ nw hJ q hq (Option.some.inj h1 ▸ hc)
  · exact done
/-- what a for's head hands on: over a list that stands on the ledger -/
theorem iter_list {target : Expr} {body : List Stmt} {Q : Flow → Shared → Prop} {l : Addr} {ws : List Value} {n₀ : Nat} {m : Str → Option Value} {news : List (Addr × Obj)}
    (J : Nat → (Str → Option Value) → List (Addr × Obj) → Prop) (hh : A.handled = none) (F : Fr h₀ L s.heap m) (N : News h₀ L s.heap news) (hj : J 0 m news)
    (hJc : ∀ i m nw, J i m nw → ∀ q ∈ nw, q.2.cls ≠ .type "list_iterator") (hkeep : ∀ i m nw, J i m nw → (l, PySem.W.listOf (List.toArray ws) n₀) ∈ nw)
    (turn : ∀ i v h tk m₁ nw o I, ws[i]? = some v → J i m₁ nw → o.cls = .type "list_iterator" → Fr h₀ L h m₁ → News h₀ L h ((I, o) :: nw) → (∀ q ∈ nw, @Ne Nat q.1 I) →
        ∀ QT : Flow → Shared → Prop, (∀ f s', LEnd h₀ L (fun m' nw' => ∃ nx, nw' = (I, o) :: nx ∧ J (i + 1) m' nx) s Q f s' → QT f s') →
        wpAny (model prog w) A (assign target env v) (fun _ s₃ => wpAny (model prog w) A (execs body env) QT (fun _ _ => False) s₃) (fun _ _ => False) { s with heap := h, toks := tk })
    (done : ∀ h' tk m' nw, Fr h₀ L h' m' → News h₀ L h' nw → J ws.length m' nw → Q .next { s with heap := h', toks := tk }) :
    wpAny (model prog w) A (pyIter (.ref l)) (fun it s₂ => ForHd prog w A h₀ L (goA prog w A env target body) Q it s₂) (fun _ _ => False) s :=
  iter_listX J hh F N hj hJc hkeep turn done
end loops

end
example : (PySem.Challenge.rw_og0131_01 = PySem.Challenge.rw_og0131_01) ∧ (Mine.hd.heap_39 = Mine.hd.heap_39) := by w_top off; k_fill; exact ⟨rfl, rfl⟩
example {M : PySem.Model} {A : PySem.Around} {t : PySem.Sem Unit} {Q : Unit → PySem.Shared → Prop} {E : PySem.Value → PySem.Shared → Prop} {s : PySem.Shared} (h : PySem.wpAny M A t Q E s) : PySem.wpAny M A t Q E s := by first | (walk1; fail) | exact h
abbrev PR : Program := PySem.Challenge.rw_og0131_01.row.prog

def byteI (B : List UInt8) (i : Int) : Int := (B.getD i.toNat 0).toNat
def keyI (B : List UInt8) (i : Int) : Int := byteI B i + 256 * byteI B (i + 1) + 65536 * byteI B (i + 2)
theorem size_cast (B : List UInt8) : (B.toArray.size : Int) = B.length := by rw [List.size_toArray]
def comm (B : List UInt8) (b a : Nat) : Nat → Nat
  | 0 => 0
  | k + 1 => if B.getD b 0 = B.getD a 0 then comm B (b + 1) (a + 1) k + 1 else 0

local macro_rules | `(tactic| walk_at "my enter0") => `(tactic| (
  refine' enter0 (by assumption) (by assumption) (by assumption) ?k6 ?k7 ?k8 ?k9 ?kB ?_ ?c2 ?c3 ?c4 ?c5;
  (case k6 => k_dflt k_is); (case k7 => k_dflt k_is); (case k8 => first | exact Nat.lt_of_le_of_lt (Nat.le_add_right _ _) (by assumption) | omega | (simp only [Around.deeper] at *; omega)); (case k9 => exact BindsTo.of_eq rfl); (case c5 => decide); (case kB => exact locs rfl); (case c2 => exact rfl); (case c3 => exact rfl); (case c4 => exact rfl)))
local macro_rules | `(tactic| walk_at "exec While") => `(tactic| refine stop ?_)
local macro_rules | `(tactic| walk_at "exec For") => `(tactic| refine stop ?_)
local macro_rules | `(tactic| walk_at "call ref") => `(tactic| refine stop ?_)

local macro_rules | `(tactic| walk_at "my look") => `(tactic| first | assumption | exact rfl | (refine (if_neg (by decide)).trans ?_; walk_at "my look") | exact (if_pos rfl))
local macro_rules | `(tactic| walk_at "eval Name") => `(tactic| (k_here; refine' nameX_L (cl := []) ?F ?v ?_ ?a ?b; (case F => k_asm); (case a => exact rfl); (case b => exact rfl); (case v => walk_at "my look"); k_whole))
local macro_rules | `(tactic| walk_at "loadName") => `(tactic| (k_here; refine' ldX (cl := []) ?F ?v ?_ ?a ?b; (case F => k_asm); (case a => exact rfl); (case b => exact rfl); (case v => walk_at "my look"); k_whole))

theorem comm_go {B : List UInt8} {b a i M : Nat} (hi : i < M) (hh : B.getD (b + i) 0 = B.getD (a + i) 0) : comm B (b + i) (a + i) (M - i) = 1 + comm B (b + (i + 1)) (a + (i + 1)) (M - (i + 1)) := by
  obtain ⟨k, hk⟩ : ∃ k, M = i + (k + 1) := ⟨M - i - 1, by omega⟩
  rw [hk, Nat.add_sub_cancel_left, comm, if_pos hh, Nat.add_comm, ← Nat.add_assoc i k 1, Nat.add_right_comm i k 1, Nat.add_sub_cancel_left]
  rfl
theorem comm_not {B : List UInt8} {b a i M : Nat} (hh : B.getD (b + i) 0 ≠ B.getD (a + i) 0) : comm B (b + i) (a + i) (M - i) = 0 := by
  cases M - i with
  | zero => rfl
  | succ k => rw [comm, if_neg hh]
/-- the loop that counts how far two places run alike -/
inductive JCom (B : List UInt8) (b a M : Nat) (v1 v2 v3 : Value) (x : Str) (y : Int) (n : Nat) (m' : Str → Option Value) (nw : List (Addr × Obj)) : Prop
  | mk (i : Nat) : nw = [] → i ≤ M → n = M - i → comm B b a M = i + comm B (b + i) (a + i) (M - i) → m' (Str.ofString "octets") = some v1 → m' (Str.ofString "back") = some v2 → m' (Str.ofString "at") = some v3 →
      IntIs m' x y → IntIs m' (Str.ofString "length") i → JCom B b a M v1 v2 v3 x y n m' nw
theorem JCom.next {B : List UInt8} {b a M i : Nat} (hi : i < M) (hh : B.getD (b + i) 0 = B.getD (a + i) 0) (hc : comm B b a M = i + comm B (b + i) (a + i) (M - i)) : comm B b a M = (i + 1) + comm B (b + (i + 1)) (a + (i + 1)) (M - (i + 1)) := by
  rw [hc, comm_go hi hh, Nat.add_assoc]
theorem JCom.stop {B : List UInt8} {b a M i : Nat} (hh : B.getD (b + i) 0 ≠ B.getD (a + i) 0) (hc : comm B b a M = i + comm B (b + i) (a + i) (M - i)) : comm B b a M = i := by rw [hc, comm_not hh]; rfl
theorem JCom.done {B : List UInt8} {b a M i : Nat} (hi : M ≤ i) (hc : comm B b a M = i + comm B (b + i) (a + i) (M - i)) : comm B b a M = i := by rw [hc, Nat.sub_eq_zero_of_le hi]; rfl
theorem at_nat {B : List UInt8} (b i : Nat) : B.getD ((b : Int) + (i : Int)).toNat 0 = B.getD (b + i) 0 := by rw [← Int.natCast_add, Int.toNat_natCast]
section
variable {w : World} {h₀ : Heap} {mg mb : Str → Option Value} {p : Program} {loose : List Str} {mean : ExcName → Option Value} {s : Shared} {dp un : Nat} {fr : Option (List Env)} {gd : Option (List Code)} {Q E : Value → Shared → Prop}

theorem c_key_at {B : List UInt8} {at' : Int} {t u : Tok} (X : (hd.heap_39 w.params).In h₀) (T : Top p loose mean mg mb h₀) (hst : h₀.StaysIn s.heap)
    (hB : B.length ≤ 20) (h0 : 0 ≤ at') (h1 : at' + 3 ≤ B.length) (hd : dp + 2 < recursionLimit) (hu : un + 20 < cLine)
    (hq : ∀ h' tk' t', s.heap.StaysIn h' → Q (.int (keyI B at') t') { s with heap := h', toks := tk' }) :
    wpAny (model PR w) (arnd dp un fr gd) (call (.ref 68) [.bytes B.toArray t, .int at' u] []) Q E s := by
  walk_at "my enter0"
  clear X T
  intro L' h₁ F N X T hL
  try dsimp only
  try k_fold
  k_steps
  dsimp only
  exact hq _ _ _ F.keep

theorem c_common_length {B : List UInt8} {bk at' mo : Int} {t u v z : Tok} (X : (hd.heap_39 w.params).In h₀) (T : Top p loose mean mg mb h₀) (hst : h₀.StaysIn s.heap)
    (hB : B.length ≤ 20) (h0 : 0 ≤ bk) (h1 : bk < at') (h2 : at' ≤ B.length) (h3 : 0 ≤ mo) (h4 : mo ≤ 10) (hd : dp + 2 < recursionLimit) (hu : un + 20 < cLine)
    (hq : ∀ h' tk' t', s.heap.StaysIn h' → Q (.int (comm B bk.toNat at'.toNat (min (B.length - at') mo).toNat) t') { s with heap := h', toks := tk' }) :
    wpAny (model PR w) (arnd dp un fr gd) (call (.ref 110) [.bytes B.toArray t, .int bk u, .int at' v, .int mo z] []) Q E s := by
  obtain ⟨b, rfl⟩ := Int.eq_ofNat_of_zero_le h0
  obtain ⟨a, rfl⟩ := Int.eq_ofNat_of_zero_le (a := at') (by omega)
  obtain ⟨M, hM⟩ : ∃ M : Nat, min ((B.length : Int) - (a : Int)) mo = M := Int.eq_ofNat_of_zero_le (by omega)
  have hM1 : a + M ≤ B.length := by omega
  have hba : b < a := by omega
  rw [hM, Int.toNat_natCast, Int.toNat_natCast, Int.toNat_natCast] at hq
  walk_at "my enter0"
  clear X T
  intro L' h₁ F N X T hL
  try dsimp only
  k_steps
  rename Fr _ _ _ _ => F
  rename News _ _ _ _ => N
  refine unstop ?_
  have hmin : (if mo < (B.toArray.size : Int) - a then mo else (B.toArray.size : Int) - a) = M := by
    rw [← hM, List.size_toArray, Int.min_def]; split <;> split <;> omega
  refine while_inv (JCom B b a M (.bytes B.toArray t) (.int b u) (.int a v) (Str.ofString "end") M) M F N ⟨0, rfl, Nat.zero_le _, rfl, by simp, rfl, rfl, rfl, ⟨_, _, rfl, hmin⟩, ⟨_, _, rfl, rfl⟩⟩ ?_
  clear F N hmin hM h0 h1 h2 h3 h4
  rintro n h tk m nw F N ⟨i, rfl, hi, rfl, hc, m1, m2, m3, ⟨_, te, m4, rfl⟩, ⟨_, ti, m5, rfl⟩⟩ QT hQT
  k_steps
  · rename Fr _ _ _ _ => F
    rename News _ _ _ _ => N
    rename (_ : Int) = (_ : Int) => hh
    rename ((_ : Int) < (_ : Int)) => hlt
    have hlt : i < M := Int.ofNat_lt.mp hlt
    rw [at_nat, at_nat] at hh
    exact hQT _ _ <| LEnd.intro F N ⟨_, Nat.sub_lt_sub_left hlt (Nat.lt_succ_self i), i + 1, rfl, hlt, rfl, JCom.next hlt (UInt8.toNat_inj.mp (Int.ofNat_inj.mp hh)) hc, by walk_at "my look", by walk_at "my look", by walk_at "my look", ⟨_, _, by walk_at "my look", rfl⟩, ⟨_, _, by walk_at "my look", rfl⟩⟩
  · dsimp only
    rename ((_ : Int) ≠ (_ : Int)) => hh
    rw [at_nat, at_nat] at hh
    rw [JCom.stop (fun e => hh (by rw [e])) hc] at hq
    exact hq _ (tk + 1 + 1 + 1 + 1) ti F.keep
  · dsimp only
    rename (¬ (_ : Int) < (_ : Int)) => hlt
    rw [JCom.done (Nat.le_of_not_lt fun e => hlt (Int.ofNat_lt.mpr e)) hc] at hq
    exact hq _ tk ti F.keep
end
example {M : PySem.Model} {A : PySem.Around} {t : PySem.Sem Unit} {Q : Unit → PySem.Shared → Prop} {E : PySem.Value → PySem.Shared → Prop} {s : PySem.Shared} (h : PySem.wpAny M A t Q E s) : PySem.wpAny M A t Q E s := by first | (walk1; fail) | exact h

/-- the last place ahead of k with this key, -1 without any -/
def lastAt (B : List UInt8) : Nat → Int → Int
  | 0, _ => -1
  | k + 1, key => if k + 3 ≤ B.length ∧ keyI B k = key then k else lastAt B k key
/-- what put notes of place i -/
def prevI (B : List UInt8) (i : Nat) : Int := if i + 3 ≤ B.length then lastAt B i (keyI B i) else -1
def HeadsOK (B : List UInt8) (k : Nat) (kvs : List (Int × Value)) : Prop :=
  ∀ key, (valueAt kvs key = none ∧ lastAt B k key = -1) ∨ ∃ t, valueAt kvs key = some (.int (lastAt B k key) t)

theorem valueAt_stored (kvs : List (Int × Value)) (k : Int) (v : Value) (k' : Int) : valueAt (stored kvs k v) k' = if k' = k then some v else valueAt kvs k' := by
  unfold stored valueAt
  split
  · rename_i h
    induction kvs with
    | nil => simp at h
    | cons a r ih =>
      obtain ⟨ka, va⟩ := a
      simp only [List.any_cons, Bool.or_eq_true, decide_eq_true_eq] at h
      simp only [List.map_cons, List.find?_cons]
      by_cases h1 : ka = k
      · subst h1
        simp only [if_true]
        by_cases h2 : ka = k'
        · subst h2; simp
        · have h3 : ¬ k' = ka := fun e => h2 e.symm
          simp only [h2, h3, decide_false, if_false]
          by_cases hr : r.any (fun kv => decide (kv.1 = ka)) = true
          · have := ih hr; simp only [h3, if_false] at this; exact this
          · have : r.map (fun kv => if kv.1 = ka then (kv.1, v) else kv) = r := by
              refine (List.map_congr_left (g := id) fun q hq => ?_).trans (List.map_id _)
              have : ¬ q.1 = ka := fun e => hr (List.any_eq_true.mpr ⟨q, hq, by simp [e]⟩)
              simp [this]
            rw [this]
      · have hr := h.resolve_left h1
        simp only [h1, if_false]
        by_cases h2 : ka = k'
        · subst h2; simp [h1]
        · simp only [h2, decide_false]; exact ih hr
  · rename_i h
    have hn : ∀ q ∈ kvs, ¬ q.1 = k := fun q hq e => h (List.any_eq_true.mpr ⟨q, hq, by simp [e]⟩)
    rw [List.find?_append]
    by_cases h1 : k' = k
    · subst h1
      have : kvs.find? (fun kv => decide (kv.1 = k')) = none := List.find?_eq_none.mpr fun q hq => by simpa using hn q hq
      simp [this]
    · have h2 : ¬ k = k' := fun e => h1 e.symm
      simp [h1, h2]

theorem HeadsOK.skip {B : List UInt8} {k : Nat} {kvs : List (Int × Value)} (h : HeadsOK B k kvs) (hk : ¬ k + 3 ≤ B.length) : HeadsOK B (k + 1) kvs := by
  intro key
  have e : lastAt B (k + 1) key = lastAt B k key := by rw [lastAt, if_neg (fun q => hk q.1)]
  rw [e]; exact h key
theorem HeadsOK.store {B : List UInt8} {k : Nat} {kvs : List (Int × Value)} (h : HeadsOK B k kvs) (hk : k + 3 ≤ B.length) (t : Tok) : HeadsOK B (k + 1) (stored kvs (keyI B k) (.int k t)) := by
  intro key
  rw [valueAt_stored, lastAt]
  by_cases e : key = keyI B k
  · subst e; rw [if_pos rfl, if_pos ⟨hk, rfl⟩]; exact .inr ⟨t, rfl⟩
  · rw [if_neg e, if_neg (fun q => e q.2.symm)]; exact h key
theorem HeadsOK.get {B : List UInt8} {k : Nat} {kvs : List (Int × Value)} (h : HeadsOK B k kvs) (key : Int) (t : Tok) : ∃ t', (valueAt kvs key).getD (.int (-1) t) = .int (lastAt B k key) t' := by
  rcases h key with ⟨a, b⟩ | ⟨t', a⟩
  · exact ⟨t, by rw [a, b]; rfl⟩
  · exact ⟨t', by rw [a]; rfl⟩

theorem heads_get {prog : Program} {w : World} {A : Around} {E : Value → Shared → Prop} {s : Shared} {h₀ : Heap} {L d : Addr} {news : List (Addr × Obj)} {o : Obj} {B : List UInt8} {k : Nat} {kvs : List (Int × Value)} {key : Int} {t u : Tok} {Q : Value → Shared → Prop}
    (N : News h₀ L s.heap news) (hp : (d, o) ∈ news) (hd : o.IsDictOf (intKind prog w) kvs) (lo : (d == sysModules) = false) (hok : HeadsOK B k kvs) (h : ∀ t', Q (.int (lastAt B k key) t') { s with toks := s.toks + 1 }) :
    wpAny (model prog w) A (call (.builtin "dict.get") [.ref d, .int key t, .int (-1) u]) Q E s := by
  obtain ⟨t', e⟩ := hok.get key u
  exact kdg_get2 N hp hd lo (intKind_is _ _ _ _) _ rfl (by rw [e]; exact h t')

theorem heads_set {prog : Program} {w : World} {A : Around} {E : Value → Shared → Prop} {s : Shared} {h₀ : Heap} {L d : Addr} {m : Str → Option Value} {news : List (Addr × Obj)} {g : Obj → List (Addr × Obj)} {o : Obj} {kvs : List (Int × Value)} {key : Int} {t : Tok} {v : Value} {Q : Unit → Shared → Prop}
    (F : Fr h₀ L s.heap m) (N : News h₀ L s.heap news) (U : UpdF d o news g) (hd : o.IsDictOf (intKind prog w) kvs) (hsz : kvs.length ≤ 1000)
    (h : ∀ h' o', Fr h₀ L h' m → News h₀ L h' (g o') → o'.IsDictOf (intKind prog w) (stored kvs key v) → Q () { s with heap := h', toks := s.toks + 1 }) : wpAny (model prog w) A (setItem (.ref d) (.int key t) v) Q E s :=
  kda_set F N U hd (intKind_is _ _ _ _) (by rw [sizeLine_eq]; omega) h

theorem ints_snoc {vs : List Value} {ns : List Int} (h : IntsAre vs ns) (n : Int) (t : Tok) : IntsAre (vs ++ [.int n t]) (ns ++ [n]) := by
  induction h with
  | nil => exact .cons _ _ .nil
  | cons a b _ ih => exact .cons _ _ ih
theorem ints_prev {B : List UInt8} {vs : List Value} {k : Nat} (h : IntsAre vs ((List.range k).map (prevI B))) {i : Int} (hi : prevI B k = i) (t : Tok) : IntsAre (vs ++ [.int i t]) ((List.range (k + 1)).map (prevI B)) := by
  rw [List.range_succ, List.map_append, ← hi]
  exact ints_snoc h _ _

abbrev chDict (P : Params) (B : List UInt8) (hd er : Addr) (tb t1 t2 t3 : Tok) : List DictEntry :=
  [⟨PyData.keyHash P (Str.ofString "octets"), .str (Str.ofString "octets") t1, .bytes B.toArray tb⟩, ⟨PyData.keyHash P (Str.ofString "heads"), .str (Str.ofString "heads") t2, .ref hd⟩,
   ⟨PyData.keyHash P (Str.ofString "earlier"), .str (Str.ofString "earlier") t3, .ref er⟩]
/-- where the parts of a Chains lie -/
structure ChAt where
  x : Addr
  dx : Addr
  hd : Addr
  er : Addr
  tb : Tok
  t1 : Tok
  t2 : Tok
  t3 : Tok
abbrev ChAt.adr (c : ChAt) : List Addr := [c.x, c.dx, c.hd, c.er]
/-- a Chains over B into which the first k places were put -/
inductive ChainsAt (w : World) (B : List UInt8) (c : ChAt) (k : Nat) (h : Heap) : Prop
  | mk (oh : Obj) (kvs : List (Int × Value)) (vs : List Value) (n : Nat) : @LT.lt Nat _ c.dx c.x → @LT.lt Nat _ c.x c.hd → @LT.lt Nat _ c.hd c.er → (c.hd == sysModules) = false →
      h.get? c.x = some (instObj 99 c.dx) → h.get? c.dx = some (dictOf (chDict w.params B c.hd c.er c.tb c.t1 c.t2 c.t3) 3) →
      h.get? c.hd = some oh → oh.IsDictOf (intKind PR w) kvs → HeadsOK B k kvs → kvs.length ≤ k →
      h.get? c.er = some (PySem.W.listOf (List.toArray vs) n) → IntsAre vs ((List.range k).map (prevI B)) → ChainsAt w B c k h



local macro_rules | `(tactic| walk_at "call builtin:len") => `(tactic| (k_here; (with_reducible show wpAny _ _ (call (Value.builtin "len") [Value.ref _]) _ _ _); k_dflt (refine' len_news ?N ?m ?f ?_; (case N => k_asm); (case m => k_mem); (case f => omega))))
local macro_rules | `(tactic| walk_at "my lt") => `(tactic| first | assumption | exact And.left (by assumption) | exact And.left (And.right (by assumption)) | exact And.left (And.right (And.right (by assumption))) | exact And.left (And.right (And.right (And.right (by assumption)))) | exact And.left (And.right (And.right (And.right (And.right (by assumption))))) | exact And.left (And.right (And.right (And.right (And.right (And.right (by assumption)))))) | exact And.left (And.right (And.right (And.right (And.right (And.right (And.right (by assumption))))))) | exact And.left (And.right (And.right (And.right (And.right (And.right (And.right (And.right (by assumption)))))))))
local macro_rules | `(tactic| k_ne) => `(tactic| (refine neN ?_; (try dsimp only); first | assumption | exact Ne.symm (by assumption) | (refine Nat.ne_of_lt ?_; walk_at "my lt") | (refine Nat.ne_of_gt ?_; walk_at "my lt")))
local macro_rules | `(tactic| walk_at "my room") => `(tactic| first | (refine' room_lt ?h ?e; (case h => assumption); (case e => decide)) | omega | (dsimp only [Around.deeper]; omega) | (simp only [Around.deeper]; omega))
local macro_rules | `(tactic| walk_at "call builtin:list.append") => `(tactic| (k_here; (with_reducible show wpAny _ _ (call (Value.builtin _) [Value.ref _, _]) _ _ _); k_dflt (refine' append_news ?k1 ?k2 ?k3 ?z ?_; (case k1 => k_asm); (case k2 => k_asm); (case k3 => k_upd); (case z => omega)); intro h' F' N'; (try k_sweep)))
local macro_rules | `(tactic| walk_at "call builtin:dict.get") => `(tactic| (k_here; k_dflt (refine' heads_get ?k1 ?k2 ?k3 ?k4 ?k5 ?_; (case k1 => k_asm); (case k2 => k_mem); (case k3 => assumption); (case k4 => assumption); (case k5 => assumption)); intro t9))
local macro_rules | `(tactic| walk_at "my enterT") => `(tactic| (
  refine' enterT ?ts (by assumption) (by assumption) (by assumption) ?hT ?k6 ?k7 ?k8 ?k9 ?kB ?_ ?c2 ?c3 ?c4 ?c5;
  (case k6 => k_dflt k_is); (case k7 => k_dflt k_is); (case k8 => first | exact Nat.lt_of_le_of_lt (Nat.le_add_right _ _) (by assumption) | omega | (simp only [Around.deeper] at *; omega)); (case k9 => exact BindsTo.of_eq rfl); (case c5 => decide); (case kB => exact locs rfl); (case c2 => exact rfl); (case c3 => exact rfl); (case c4 => exact rfl)))

inductive JPut (w : World) (B : List UInt8) (k M : Nat) (e : Int) (t : Tok) (x dx hda er : Addr) (tb t1 t2 t3 : Tok) (n : Nat) (m' : Str → Option Value) (nw : List (Addr × Obj)) : Prop
  | mk (k' : Nat) (oh : Obj) (kvs : List (Int × Value)) (vs : List Value) (n₁ : Nat) : (nw = [(x, instObj 99 dx), (dx, dictOf (chDict w.params B hda er tb t1 t2 t3) 3), (hda, oh), (er, PySem.W.listOf (List.toArray vs) n₁)]) → (k ≤ k') → (k' ≤ M) → (n = M - k') → (oh.IsDictOf (intKind PR w) kvs) → (HeadsOK B k' kvs) → (kvs.length ≤ k') → (IntsAre vs ((List.range k').map (prevI B))) → (m' (Str.ofString "self") = some (.ref x)) → (m' (Str.ofString "end") = some (.int e t)) → JPut w B k M e t x dx hda er tb t1 t2 t3 n m' nw
section
local macro_rules | `(tactic| walk_at "setItem ref int") => `(tactic| (k_here; k_dflt (refine' heads_set ?k1 ?k2 ?k3 ?k4 ?k5 ?_; (case k1 => k_asm); (case k2 => k_asm); (case k3 => k_updF); (case k4 => assumption); (case k5 => omega)); intro h' o' F' N' hd'; (try dsimp only at N'); (try k_sweep)))
variable {w : World} {h₀ : Heap} {mg mb : Str → Option Value} {p : Program} {loose : List Str} {mean : ExcName → Option Value} {s : Shared} {dp un : Nat} {fr : Option (List Env)} {gd : Option (List Code)} {Q E : Value → Shared → Prop}

theorem c_put {B : List UInt8} {c : ChAt} {k : Nat} {e : Int} {t : Tok} (X : (hd.heap_39 w.params).In h₀) (T : Top p loose mean mg mb h₀) (hst : h₀.StaysIn s.heap)
    (hB : B.length ≤ 20) (hk : k ≤ 20) (h1 : e ≤ 20) (hd : dp + 3 < recursionLimit) (hu : un + 40 < cLine) (hc0 : ∀ a ∈ c.adr, h₀.get? a = none)
    (hC : ChainsAt w B c k s.heap)
    (hq : ∀ h' tk', (hideAll s.heap c.adr).StaysIn h' → ChainsAt w B c (max k e.toNat) h' → Q .none { s with heap := h', toks := tk' }) :
    wpAny (model PR w) (arnd dp un fr gd) (call (.ref 89) [.ref c.x, .int e t] []) Q E s := by
  obtain ⟨M, hM⟩ : ∃ M, max k e.toNat = M := ⟨_, rfl⟩
  have hkM : k ≤ M := hM ▸ Nat.le_max_left _ _
  have hM20 : M ≤ 20 := hM ▸ Nat.max_le.mpr ⟨hk, Int.toNat_le.mpr h1⟩
  have heM : e ≤ M := Int.le_trans (Int.self_le_toNat e) (Int.ofNat_le.mpr (hM ▸ Nat.le_max_right _ _))
  have hMM : M = k ∨ (M : Int) = e := by omega
  rw [hM] at hq
  clear hM
  obtain ⟨x, dx, hda, er, tb, t1, t2, t3⟩ := c
  obtain ⟨oh, kvs, vs, n, l1, l2, l3, lm, o1, o2, o3, hkv, hok, hkl, o4, hvs⟩ := hC
  dsimp only at *
  walk_at "my enterT"
  case ts => exact [(x, instObj 99 dx), (dx, dictOf (chDict w.params B hda er tb t1 t2 t3) 3), (hda, oh), (er, PySem.W.listOf (List.toArray vs) n)]
  case hT =>
    intro q hq
    simp only [List.mem_cons, List.not_mem_nil, or_false] at hq
    rcases hq with rfl | rfl | rfl | rfl
    · exact ⟨hc0 _ (by simp), o1⟩
    · exact ⟨hc0 _ (by simp), o2⟩
    · exact ⟨hc0 _ (by simp), o3⟩
    · exact ⟨hc0 _ (by simp), o4⟩
  clear X T
  intro L' h₁ F N X T hL
  try dsimp only
  generalize hg : hideAll s.heap _ = g at F N X T
  replace hg : hideAll s.heap [x, dx, hda, er] = g := hg
  k_steps
  rename Fr _ _ _ _ => F
  rename News _ _ _ _ => N
  refine unstop ?_
  refine while_inv (JPut w B k M e t x dx hda er tb t1 t2 t3) (M - k) F N
    ⟨k, oh, kvs, vs, n, rfl, Nat.le_refl _, hkM, rfl, hkv, hok, hkl, hvs, rfl, rfl⟩ ?_
  clear F N hkv hok hkl hvs o1 o2 o3 o4 oh kvs vs n
  rintro n h tk m nw F N ⟨k', oh, kvs, vs, n₁, rfl, hk1, hk2, hn, hkv, hok, hkl, hvs, m1, m2⟩ QT hQT
  have hlen : vs.length = k' := by have := hvs.length; simpa using this
  have hvs20 : vs.length ≤ 20 := hlen ▸ Nat.le_trans hk2 hM20
  have hkl20 : kvs.length ≤ 20 := Nat.le_trans hkl (Nat.le_trans hk2 hM20)
  k_steps
  · rename Fr _ _ _ _ => F
    rename News _ _ _ _ => N
    refine unstop (c_key_at X T F.keep hB (by omega) (by have := size_cast B; omega) (by walk_at "my room") (by walk_at "my room") ?_)
    intro h' tk' t' hst'
    replace F := fr_after0 F hst'
    replace N := news_after0 N hst'
    clear hst'
    k_steps
    rename Fr _ _ _ _ => F
    rename News _ _ _ _ => N
    rename Obj.IsDictOf _ _ _ => hkv'
    have ha : (vs.length : Int) + 3 ≤ B.toArray.size := by assumption
    rw [size_cast] at ha
    subst hlen
    have hle : vs.length + 3 ≤ B.length := by omega
    have hlM : vs.length < M := Int.ofNat_lt.mp (Int.lt_of_lt_of_le (by assumption) heM)
    refine hQT _ _ <| LEnd.intro F N ⟨M - (vs.length + 1), hn ▸ Nat.sub_lt_sub_left hlM (Nat.lt_succ_self _), vs.length + 1, _, _, _, _, rfl, Nat.le_succ_of_le hk1, hlM, rfl, hkv', hok.store hle _, Nat.le_trans (stored_length_le _ _ _) (Nat.succ_le_succ hkl), ints_prev hvs (by rw [prevI, if_pos hle]) _, by walk_at "my look", by walk_at "my look"⟩
  · rename Fr _ _ _ _ => F
    rename News _ _ _ _ => N
    have ha : ¬ (vs.length : Int) + 3 ≤ B.toArray.size := by first | assumption | omega
    rw [size_cast] at ha
    subst hlen
    have hle : ¬ vs.length + 3 ≤ B.length := by omega
    have hlM : vs.length < M := Int.ofNat_lt.mp (Int.lt_of_lt_of_le (by assumption) heM)
    refine hQT _ _ <| LEnd.intro F N ⟨M - (vs.length + 1), hn ▸ Nat.sub_lt_sub_left hlM (Nat.lt_succ_self _), vs.length + 1, _, _, _, _, rfl, Nat.le_succ_of_le hk1, hlM, rfl, hkv, hok.skip hle, Nat.le_succ_of_le hkl, ints_prev hvs (by rw [prevI, if_neg hle]) _, by walk_at "my look", by walk_at "my look"⟩
  · dsimp only
    subst hlen
    have hk' : vs.length = M := by omega
    refine hq _ _ (hg ▸ F.keep) ⟨oh, kvs, vs, n₁, l1, l2, l3, lm, N.get (by k_mem), N.get (by k_mem), N.get (by k_mem), hkv, hk' ▸ hok, hk' ▸ hkl, N.get (by k_mem), hk' ▸ hvs⟩
end
example {M : PySem.Model} {A : PySem.Around} {t : PySem.Sem Unit} {Q : Unit → PySem.Shared → Prop} {E : PySem.Value → PySem.Shared → Prop} {s : PySem.Shared} (h : PySem.wpAny M A t Q E s) : PySem.wpAny M A t Q E s := by first | (walk1; fail) | exact h


/-- the chain of earlier places from here on, told as far and as many as asked -/
def walkB (B : List UInt8) (at' far : Int) : Nat → Int → List Int
  | 0, _ => []
  | n + 1, here => if 0 ≤ here ∧ at' - here ≤ far then here :: walkB B at' far n (prevI B here.toNat) else []
def placesI (B : List UInt8) (k : Nat) (at' far : Int) (tr : Nat) : List Int := if at' + 3 ≤ B.length then walkB B at' far tr (lastAt B k (keyI B at')) else []
theorem lastAt_lt (B : List UInt8) : ∀ (k : Nat) (key : Int), lastAt B k key < k
  | 0, _ => by rw [lastAt]; omega
  | k + 1, key => by
    rw [lastAt]
    split
    · omega
    · have := lastAt_lt B k key; omega
theorem prevI_lt (B : List UInt8) (i : Nat) : prevI B i < i := by
  unfold prevI
  split
  · exact lastAt_lt B i _
  · omega
theorem walkB_stop {B : List UInt8} {at' far here : Int} (h : ¬ (0 ≤ here ∧ at' - here ≤ far)) (n : Nat) : walkB B at' far n here = [] := by
  cases n with
  | zero => rfl
  | succ n => rw [walkB, if_neg h]
theorem earlier_news {prog : Program} {w : World} {A : Around} {E : Value → Shared → Prop} {s : Shared} {h₀ : Heap} {L a : Addr} {news : List (Addr × Obj)} {B : List UInt8} {k : Nat} {vs : List Value} {n : Nat} {i : Int} {u : Tok} {value slice : Expr} {Q : Value → Shared → Prop}
    (N : News h₀ L s.heap news) (hm : (a, PySem.W.listOf (List.toArray vs) n) ∈ news) (hi : IntsAre vs ((List.range k).map (prevI B))) (h0 : 0 ≤ i) (h1 : i < k) (hk : k ≤ 1000) (h : ∀ t, Q (.int (prevI B i.toNat) t) s)
    (hs : subscripted slice false (.ref a) (.int i u) = operate [.ref a, .int i u] (getItem (.ref a) (.int i u)) := by with_unfolding_all rfl) :
    wpAny (model prog w) A (subscriptTail value slice (.ref a) (.int i u)) Q E s := by
  obtain ⟨t, e⟩ := hi.get i.toNat (prevI B i.toNat) (by rw [List.getElem?_map, List.getElem?_range (by omega)]; rfl)
  exact item_news N hm h0 (by omega) e (h t) hs



theorem step_lt {p h : Int} (h0 : 0 ≤ h) (hp : p < (h.toNat : Int)) : (p + 1).toNat < (h + 1).toNat :=
  (Int.toNat_lt_toNat (Int.lt_add_one_of_le h0)).mpr (Int.add_lt_add_right (Int.toNat_of_nonneg h0 ▸ hp) 1)
inductive JPlaces (w : World) (B : List UInt8) (k : Nat) (at' far : Int) (tr : Nat) (t u v : Tok) (x dx hda er : Addr) (tb t1 t2 t3 : Tok) (oh : Obj) (vs : List Value) (n : Nat) (l : Addr) (n' : Nat) (m' : Str → Option Value) (nw : List (Addr × Obj)) : Prop
  | mk (here : Int) (fs : List Int) (ws : List Value) (n₂ : Nat) : (nw = [(l, PySem.W.listOf (List.toArray ws) n₂), (x, instObj 99 dx), (dx, dictOf (chDict w.params B hda er tb t1 t2 t3) 3), (hda, oh), (er, PySem.W.listOf (List.toArray vs) n)]) → (IntsAre ws fs) → (here < k) → (n' = (here + 1).toNat) → (fs.length ≤ tr) → (fs ++ walkB B at' far (tr - fs.length) here = walkB B at' far tr (lastAt B k (keyI B at'))) → (m' (Str.ofString "self") = some (.ref x)) → (m' (Str.ofString "at") = some (.int at' t)) → (m' (Str.ofString "most_back") = some (.int far u)) → (m' (Str.ofString "tries") = some (.int tr v)) → (m' (Str.ofString "found") = some (.ref l)) → (IntIs m' (Str.ofString "here") here) → JPlaces w B k at' far tr t u v x dx hda er tb t1 t2 t3 oh vs n l n' m' nw
section
local macro_rules | `(tactic| walk_at "subscriptTail") => `(tactic| (k_here; (with_reducible show wpAny _ _ (subscriptTail _ _ (Value.ref _) (Value.int _ _)) _ _ _); k_dflt (refine' earlier_news ?k1 ?k2 ?k3 ?k4 ?k5 ?k6 ?_; (case k1 => k_asm); (case k2 => k_mem); (case k3 => assumption); (case k4 => omega); (case k5 => omega); (case k6 => omega)); intro t9))
variable {w : World} {h₀ : Heap} {mg mb : Str → Option Value} {p : Program} {loose : List Str} {mean : ExcName → Option Value} {s : Shared} {dp un : Nat} {fr : Option (List Env)} {gd : Option (List Code)} {Q E : Value → Shared → Prop}

theorem c_places {B : List UInt8} {c : ChAt} {k : Nat} {at' far : Int} {tr : Nat} {t u v : Tok} (X : (hd.heap_39 w.params).In h₀) (T : Top p loose mean mg mb h₀) (hst : h₀.StaysIn s.heap)
    (hB : B.length ≤ 20) (hk : k ≤ 20) (h0 : 0 ≤ at') (h1 : at' ≤ 20) (h2 : 0 ≤ far) (h3 : far ≤ 20) (h4 : tr ≤ 8) (hd : dp + 3 < recursionLimit) (hu : un + 40 < cLine) (hc0 : ∀ a ∈ c.adr, h₀.get? a = none)
    (hC : ChainsAt w B c k s.heap)
    (hq : ∀ h' tk' l ws n', s.heap.StaysIn h' → s.heap.get? l = none → h'.get? l = some (PySem.W.listOf (List.toArray ws) n') → IntsAre ws (placesI B k at' far tr) → Q (.ref l) { s with heap := h', toks := tk' }) :
    wpAny (model PR w) (arnd dp un fr gd) (call (.ref 96) [.ref c.x, .int at' t, .int far u, .int tr v] []) Q E s := by
  obtain ⟨x, dx, hda, er, tb, t1, t2, t3⟩ := c
  obtain ⟨oh, kvs, vs, n, l1, l2, l3, lm, o1, o2, o3, hkv, hok, hkl, o4, hvs⟩ := hC
  dsimp only at *
  walk_at "my enterT"
  case ts => exact [(x, instObj 99 dx), (dx, dictOf (chDict w.params B hda er tb t1 t2 t3) 3), (hda, oh), (er, PySem.W.listOf (List.toArray vs) n)]
  case hT =>
    intro q hq
    simp only [List.mem_cons, List.not_mem_nil, or_false] at hq
    rcases hq with rfl | rfl | rfl | rfl
    · exact ⟨hc0 _ (by simp), o1⟩
    · exact ⟨hc0 _ (by simp), o2⟩
    · exact ⟨hc0 _ (by simp), o3⟩
    · exact ⟨hc0 _ (by simp), o4⟩
  clear X T
  intro L' h₁ F N X T hL
  try dsimp only
  generalize hg : hideAll s.heap _ = g at F N X T
  replace hg : hideAll s.heap [x, dx, hda, er] = g := hg
  have keep : ∀ h' : Heap, g.StaysIn h' → (∀ q ∈ [(x, instObj 99 dx), (dx, dictOf (chDict w.params B hda er tb t1 t2 t3) 3), (hda, oh), (er, PySem.W.listOf (List.toArray vs) n)], h'.get? q.1 = some q.2) → s.heap.StaysIn h' := fun h' a b =>
    stays_join _ (by rw [← hg] at a; exact a) (by
      intro q hq
      simp only [List.mem_cons, List.not_mem_nil, or_false] at hq
      rcases hq with rfl | rfl | rfl | rfl <;> assumption) b
  have fresh : ∀ l : Addr, g.get? l = none → @LT.lt Nat _ x l ∧ @LT.lt Nat _ dx l ∧ @LT.lt Nat _ hda l ∧ @LT.lt Nat _ er l → s.heap.get? l = none := fun l a b => fresh_of hg a (by
    simp only [List.mem_cons, List.not_mem_nil, or_false]
    rintro (rfl | rfl | rfl | rfl) <;> exact absurd b (by omega))
  clear o1 o2 o3 o4 hc0
  have hsz := size_cast B
  k_steps
  · rename Fr _ _ _ _ => F
    rename News _ _ _ _ => N
    rename (@LT.lt Nat _ x _ ∧ _) => l4
    dsimp only
    refine hq _ _ _ [] 0 (keep _ F.keep fun q hq => (N q (.tail _ hq)).1) (fresh _ (N.fresh (.head _)) l4) (N.get (.head _)) ?_
    rw [placesI, if_neg (by omega)]
    exact .nil
  · rename Fr _ _ _ _ => F
    rename News _ _ _ _ => N
    rename (@LT.lt Nat _ x _ ∧ _) => l4
    refine unstop (c_key_at X T F.keep hB (by omega) (by omega) (by walk_at "my room") (by walk_at "my room") ?_)
    intro h' tk' t' hst'
    replace F := fr_after0 F hst'
    replace N := news_after0 N hst'
    clear hst'
    k_steps
    rename Fr _ _ _ _ => F
    rename News _ _ _ _ => N
    refine name_first N fun l hl => ?_
    subst hl
    have hlt := lastAt_lt B k (keyI B at')
    refine unstop (while_inv (JPlaces w B k at' far tr t u v x dx hda er tb t1 t2 t3 oh vs n l)
      (lastAt B k (keyI B at') + 1).toNat F N ⟨lastAt B k (keyI B at'), [], [], 0, rfl, .nil, hlt, rfl, Nat.zero_le _, rfl, rfl, rfl, rfl, rfl, rfl, ⟨_, _, rfl, rfl⟩⟩ ?_)
    clear F N hlt hok hkv hkl
    rintro n' h tk m nw F N ⟨here, fs, ws, n₂, rfl, hws, hh, hn, hfl, hw, m1, m2, m3, m4, m5, ⟨hv, th, m6, rfl⟩⟩ QT hQT
    have hlen := hws.length
    k_steps
    · rename Fr _ _ _ _ => F
      rename News _ _ _ _ => N
      have hp := prevI_lt B hv.toNat
      have h0v : 0 ≤ hv := by assumption
      have hlt : fs.length < tr := hlen ▸ Int.ofNat_lt.mp (by assumption)
      obtain ⟨j, hjt⟩ := Nat.exists_eq_add_of_lt hlt
      have hj : tr - fs.length = j + 1 := by rw [hjt, Nat.add_assoc, Nat.add_sub_cancel_left]
      have hj' : tr - (fs ++ [hv]).length = j := by rw [List.length_append, List.length_singleton, hjt, Nat.add_right_comm, Nat.add_sub_cancel_left]
      refine hQT _ _ <| LEnd.intro F N ⟨(prevI B hv.toNat + 1).toNat, hn ▸ step_lt h0v hp, prevI B hv.toNat, fs ++ [hv], _, _, rfl, ints_snoc hws _ _, Int.lt_trans hp (by rw [Int.toNat_of_nonneg h0v]; exact hh), rfl, by rw [List.length_append, List.length_singleton]; exact hlt, ?_,
        by walk_at "my look", by walk_at "my look", by walk_at "my look", by walk_at "my look", by walk_at "my look", ⟨_, _, by walk_at "my look", rfl⟩⟩
      rw [← hw, hj, hj', walkB, if_pos ⟨by assumption, by assumption⟩, List.append_assoc]; rfl
    · dsimp only
      refine hq _ _ l ws n₂ (keep _ F.keep fun q hq => (N q (.tail _ hq)).1) (fresh l (N.fresh (.head _)) l4) (N.get (.head _)) ?_
      rename (¬ (_ : Int) < (_ : Int)) => hnl
      have e : tr - fs.length = 0 := Nat.sub_eq_zero_of_le (Nat.le_of_not_lt fun q => hnl (Int.ofNat_lt.mpr (hlen ▸ q)))
      rw [e, walkB, List.append_nil] at hw
      rw [placesI, if_pos (by omega), ← hw]
      exact hws
    · dsimp only
      refine hq _ _ l ws n₂ (keep _ F.keep fun q hq => (N q (.tail _ hq)).1) (fresh l (N.fresh (.head _)) l4) (N.get (.head _)) ?_
      rw [walkB_stop (by omega), List.append_nil] at hw
      rw [placesI, if_pos (by omega), ← hw]
      exact hws
    · dsimp only
      refine hq _ _ l ws n₂ (keep _ F.keep fun q hq => (N q (.tail _ hq)).1) (fresh l (N.fresh (.head _)) l4) (N.get (.head _)) ?_
      rw [walkB_stop (by omega), List.append_nil] at hw
      rw [placesI, if_pos (by omega), ← hw]
      exact hws
end
example {M : PySem.Model} {A : PySem.Around} {t : PySem.Sem Unit} {Q : Unit → PySem.Shared → Prop} {E : PySem.Value → PySem.Shared → Prop} {s : PySem.Shared} (h : PySem.wpAny M A t Q E s) : PySem.wpAny M A t Q E s := by first | (walk1; fail) | exact h



theorem news_cls_ne {h₀ h : Heap} {L : Addr} {nw : List (Addr × Obj)} {q r : Addr × Obj} (N : News h₀ L h nw) (hq : q ∈ nw) (hr : r ∈ nw) (hc : q.2.cls ≠ r.2.cls) : @Ne Nat q.1 r.1 := fun e => by
  have h1 := (N q hq).1
  rw [show q.1 = r.1 from e, (N r hr).1] at h1
  exact hc (by rw [Option.some.inj h1])

abbrev chLed (P : Params) (B : List UInt8) (c : ChAt) (oh : Obj) (vs : List Value) (n : Nat) : List (Addr × Obj) :=
  [(c.x, instObj 99 c.dx), (c.dx, dictOf (chDict P B c.hd c.er c.tb c.t1 c.t2 c.t3) 3), (c.hd, oh), (c.er, PySem.W.listOf (List.toArray vs) n)]
def ChOK (w : World) (B : List UInt8) (c : ChAt) (k : Nat) (oh : Obj) (vs : List Value) : Prop :=
  @LT.lt Nat _ c.dx c.x ∧ @LT.lt Nat _ c.x c.hd ∧ @LT.lt Nat _ c.hd c.er ∧ (c.hd == sysModules) = false ∧ (∃ kvs, oh.IsDictOf (intKind PR w) kvs ∧ HeadsOK B k kvs ∧ kvs.length ≤ k) ∧ IntsAre vs ((List.range k).map (prevI B))
theorem ChOK.lts {w : World} {B : List UInt8} {c : ChAt} {k : Nat} {oh : Obj} {vs : List Value} (h : ChOK w B c k oh vs) : @LT.lt Nat _ c.dx c.x ∧ @LT.lt Nat _ c.x c.hd ∧ @LT.lt Nat _ c.hd c.er := ⟨h.1, h.2.1, h.2.2.1⟩
theorem ChOK.cls {w : World} {B : List UInt8} {c : ChAt} {k : Nat} {oh : Obj} {vs : List Value} (h : ChOK w B c k oh vs) : oh.cls = .type "dict" := by
  obtain ⟨_, _, _, _, ⟨kvs, hd, _⟩, _⟩ := h
  obtain ⟨es, ep, ⟨a, _⟩, _⟩ := hd
  exact a
theorem ch_parts {w : World} {B : List UInt8} {c : ChAt} {k : Nat} {h : Heap} (H : ChainsAt w B c k h) : ∃ oh vs n, ChOK w B c k oh vs ∧ ∀ q ∈ chLed w.params B c oh vs n, h.get? q.1 = some q.2 := by
  obtain ⟨oh, kvs, vs, n, l1, l2, l3, lm, o1, o2, o3, hkv, hok, hkl, o4, hvs⟩ := H
  refine ⟨oh, vs, n, ⟨l1, l2, l3, lm, ⟨kvs, hkv, hok, hkl⟩, hvs⟩, fun q hq => ?_⟩
  simp only [List.mem_cons, List.not_mem_nil, or_false] at hq
  rcases hq with rfl | rfl | rfl | rfl <;> assumption
theorem ch_make {w : World} {B : List UInt8} {c : ChAt} {k : Nat} {h : Heap} {oh : Obj} {vs : List Value} {n : Nat} (H : ChOK w B c k oh vs) (g : ∀ q ∈ chLed w.params B c oh vs n, h.get? q.1 = some q.2) : ChainsAt w B c k h := by
  obtain ⟨l1, l2, l3, lm, ⟨kvs, hkv, hok, hkl⟩, hvs⟩ := H
  exact ⟨oh, kvs, vs, n, l1, l2, l3, lm, g _ (.head _), g _ (.tail _ (.head _)), g _ (.tail _ (.tail _ (.head _))), hkv, hok, hkl, g _ (.tail _ (.tail _ (.tail _ (.head _)))), hvs⟩
theorem ch_fresh {h₀ h : Heap} {L : Addr} {nw : List (Addr × Obj)} {P : Params} {B : List UInt8} {c : ChAt} {oh : Obj} {vs : List Value} {n : Nat} (N : News h₀ L h nw) (hs : ∀ q ∈ chLed P B c oh vs n, q ∈ nw) : ∀ a ∈ c.adr, h₀.get? a = none ∧ a ≠ L := by
  intro a ha
  simp only [List.mem_cons, List.not_mem_nil, or_false] at ha
  rcases ha with rfl | rfl | rfl | rfl
  · have := N _ (hs _ (.head _)); exact ⟨this.2.2, this.2.1⟩
  · have := N _ (hs _ (.tail _ (.head _))); exact ⟨this.2.2, this.2.1⟩
  · have := N _ (hs _ (.tail _ (.tail _ (.head _)))); exact ⟨this.2.2, this.2.1⟩
  · have := N _ (hs _ (.tail _ (.tail _ (.tail _ (.head _))))); exact ⟨this.2.2, this.2.1⟩
/-- behind a call that turns a Chains alone -/
theorem ch_after {w : World} {h₀ h h' : Heap} {L : Addr} {m : Str → Option Value} {nw rest : List (Addr × Obj)} {B : List UInt8} {c : ChAt} {k' : Nat} {oh : Obj} {vs : List Value} {n : Nat}
    (F : Fr h₀ L h m) (N : News h₀ L h nw) (hs : ∀ q ∈ chLed w.params B c oh vs n, q ∈ nw) (hst : (hideAll h c.adr).StaysIn h') (H : ChainsAt w B c k' h') (hr : ∀ q ∈ rest, q ∈ nw ∧ q.1 ∉ c.adr) :
    ∃ oh' vs' n', ChOK w B c k' oh' vs' ∧ Fr h₀ L h' m ∧ News h₀ L h' (chLed w.params B c oh' vs' n' ++ rest) := by
  have fr := ch_fresh N hs
  obtain ⟨oh', vs', n', ok, g⟩ := ch_parts H
  refine ⟨oh', vs', n', ok, fr_after F hst (fun a ha => (fr a ha).1) (fun e => (fr L e).2 rfl), fun q hq => ?_⟩
  rcases List.mem_append.mp hq with hq | hq
  · refine ⟨g q hq, ?_⟩
    have ha : q.1 ∈ c.adr := by
      simp only [List.mem_cons, List.not_mem_nil, or_false] at hq ⊢
      rcases hq with rfl | rfl | rfl | rfl <;> simp
    exact ⟨(fr _ ha).2, (fr _ ha).1⟩
  · exact ⟨hst _ _ (hideAll_get _ (N q (hr q hq).1).1 (hr q hq).2), (N q (hr q hq).1).2⟩

abbrev tup2 (a : Int) (t : Tok) (b : Int) (u : Tok) : Obj := { cls := .type "tuple", data := .seq (List.toArray [.int a t, .int b u]) }
def PairIn (tl : List (Addr × Obj)) (v : Value) (d : Int × Int) : Prop := ∃ a t u, v = .ref a ∧ (a, tup2 d.1 t d.2 u) ∈ tl
inductive PairsIn (tl : List (Addr × Obj)) : List Value → List (Int × Int) → Prop
  | nil : PairsIn tl [] []
  | cons {v : Value} {d : Int × Int} {ws : List Value} {ds : List (Int × Int)} : PairIn tl v d → PairsIn tl ws ds → PairsIn tl (v :: ws) (d :: ds)
theorem PairIn.mono {tl tl' : List (Addr × Obj)} {v : Value} {d : Int × Int} (h : PairIn tl v d) (hs : ∀ q ∈ tl, q ∈ tl') : PairIn tl' v d := let ⟨a, t, u, e, m⟩ := h; ⟨a, t, u, e, hs _ m⟩
theorem PairsIn.mono {tl tl' : List (Addr × Obj)} {ws : List Value} {ds : List (Int × Int)} (h : PairsIn tl ws ds) (hs : ∀ q ∈ tl, q ∈ tl') : PairsIn tl' ws ds := by
  induction h with
  | nil => exact .nil
  | cons a _ ih => exact .cons (a.mono hs) ih
theorem PairsIn.snoc {tl : List (Addr × Obj)} {ws : List Value} {ds : List (Int × Int)} {v : Value} {d : Int × Int} (h : PairsIn tl ws ds) (hv : PairIn tl v d) : PairsIn tl (ws ++ [v]) (ds ++ [d]) := by
  induction h with
  | nil => exact .cons hv .nil
  | cons a _ ih => exact .cons a ih
theorem PairsIn.length {tl : List (Addr × Obj)} {ws : List Value} {ds : List (Int × Int)} (h : PairsIn tl ws ds) : ws.length = ds.length := by
  induction h with
  | nil => rfl
  | cons _ _ ih => simp [ih]

theorem walkB_mem {B : List UInt8} {at' far : Int} : ∀ (n : Nat) (here b : Int), b ∈ walkB B at' far n here → 0 ≤ b ∧ b ≤ here
  | 0, _, _, h => by simp [walkB] at h
  | n + 1, here, b, h => by
    rw [walkB] at h
    split at h
    · rename_i hc
      rcases List.mem_cons.mp h with rfl | h
      · exact ⟨hc.1, Int.le_refl _⟩
      · have := walkB_mem n _ b h
        have := prevI_lt B here.toNat
        omega
    · simp at h
theorem placesI_mem {B : List UInt8} {k : Nat} {at' far : Int} {tr : Nat} {b : Int} (h : b ∈ placesI B k at' far tr) : 0 ≤ b ∧ b < k := by
  unfold placesI at h
  split at h
  · have := walkB_mem _ _ _ h
    have := lastAt_lt B k (keyI B at')
    omega
  · simp at h
theorem walkB_length {B : List UInt8} {at' far : Int} : ∀ (n : Nat) (here : Int), (walkB B at' far n here).length ≤ n
  | 0, _ => by simp [walkB]
  | n + 1, here => by
    rw [walkB]
    split
    · simp only [List.length_cons]; have := walkB_length (B := B) (at' := at') (far := far) n (prevI B here.toNat); omega
    · simp
theorem placesI_length (B : List UInt8) (k : Nat) (at' far : Int) (tr : Nat) : (placesI B k at' far tr).length ≤ tr := by
  unfold placesI; split
  · exact walkB_length _ _
  · simp
theorem comm_le (B : List UInt8) : ∀ (n b a : Nat), comm B b a n ≤ n
  | 0, _, _ => Nat.le_refl _
  | n + 1, b, a => by
    rw [comm]; split
    · have := comm_le B n (b + 1) (a + 1); omega
    · omega

theorem ints_at {vs : List Value} {ns : List Int} (h : IntsAre vs ns) : ∀ {i : Nat} {v : Value}, vs[i]? = some v → ∃ b t, ns[i]? = some b ∧ v = .int b t := by
  induction h with
  | nil => intro i v e; simp at e
  | cons n t _ ih =>
    intro i v e
    cases i with
    | zero => simp at e; exact ⟨n, t, by simp, e.symm⟩
    | succ i => simp only [List.getElem?_cons_succ] at e ⊢; exact ih e
/-- matches_by_length, a turn: what is known, what is told -/
def stepML (B : List UInt8) (at' mo : Int) (st : Nat × List (Int × Int)) (b : Int) : Nat × List (Int × Int) :=
  (max st.1 (comm B b.toNat at'.toNat (min (B.length - at') mo).toNat), st.2 ++ (List.range (comm B b.toNat at'.toNat (min (B.length - at') mo).toNat - st.1)).map fun j => (((st.1 + 1 + j : Nat) : Int), at' - b))
def mbl (B : List UInt8) (at' mo : Int) (ps : List Int) : List (Int × Int) := (ps.foldl (stepML B at' mo) (2, [])).2
theorem max_add (k c : Nat) : max k c = k + (c - k) := by
  rcases Nat.le_total k c with h | h
  · rw [Nat.max_eq_right h, Nat.add_sub_cancel' h]
  · rw [Nat.max_eq_left h, Nat.sub_eq_zero_of_le h]; rfl
theorem max_split {k c M : Nat} (hk : k ≤ M) (hc : c ≤ M) : M - k = (c - k) + (M - max k c) := by
  rcases Nat.le_total k c with h | h
  · rw [Nat.max_eq_right h, Nat.add_comm, ← Nat.add_sub_assoc h, Nat.sub_add_cancel hc]
  · rw [Nat.max_eq_left h, Nat.sub_eq_zero_of_le h, Nat.zero_add]
theorem min_to {x mo : Int} {n : Nat} (h : mo ≤ n) : (min x mo).toNat ≤ n := Int.toNat_le.mpr (Int.le_trans (Int.min_le_right _ _) h)
theorem stepML_bound {B : List UInt8} {at' mo : Int} (hm : mo ≤ 10) (ps : List Int) : ∀ st : Nat × List (Int × Int), st.1 ≤ 10 → st.2.length ≤ st.1 → (ps.foldl (stepML B at' mo) st).1 ≤ 10 ∧ (ps.foldl (stepML B at' mo) st).2.length ≤ (ps.foldl (stepML B at' mo) st).1 := by
  induction ps with
  | nil => intro st h1 h2; exact ⟨h1, h2⟩
  | cons b r ih =>
    intro st h1 h2
    rw [List.foldl_cons]
    have hc := comm_le B (min (B.length - at') mo).toNat b.toNat at'.toNat
    refine ih _ ?_ ?_
    · exact Nat.max_le.mpr ⟨h1, Nat.le_trans (comm_le _ _ _ _) (min_to (n := 10) hm)⟩
    · unfold stepML; dsimp only; rw [List.length_append, List.length_map, List.length_range, max_add]; exact Nat.add_le_add_right h2 _


local macro_rules | `(tactic| walk_at "my sub") => `(tactic| first | (with_reducible exact ms_here) | exact ms_nil | (refine' ms_cons ?m ?r; (case m => first | k_mem | (repeat' (first | assumption | refine' List.Mem.tail _ ?_))); (case r => walk_at "my sub")) | (refine' ms_skip ?_; walk_at "my sub"))
local macro_rules | `(tactic| walk_at "exec While Compare cons nil") => `(tactic| refine stop ?_)
local macro_rules | `(tactic| walk_at "exec For Name Call cons nil") => `(tactic| refine stop ?_)
local macro_rules | `(tactic| walk_at "exec For Name Name cons nil") => `(tactic| refine stop ?_)
local macro_rules | `(tactic| walk_at "pyIter ref") => `(tactic| refine stop ?_)
local macro_rules | `(tactic| k_all) => `(tactic| assumption)

inductive JMbl (w : World) (B : List UInt8) (c : ChAt) (at' mo : Int) (t z : Tok) (ps : List Int) (pws : List Value) (pn : Nat) (oh₂ : Obj) (vs₂ : List Value) (n₂ : Nat) (l pl : Addr) (i : Nat) (m' : Str → Option Value) (nw : List (Addr × Obj)) : Prop
  | mk (ws : List Value) (n : Nat) (tl : List (Addr × Obj)) (kn : Nat) (ds : List (Int × Int)) : (nw = (l, PySem.W.listOf (List.toArray ws) n) :: (pl, PySem.W.listOf (List.toArray pws) pn) :: (c.x, instObj 99 c.dx) :: (c.dx, dictOf (chDict w.params B c.hd c.er c.tb c.t1 c.t2 c.t3) 3) :: (c.hd, oh₂) :: (c.er, PySem.W.listOf (List.toArray vs₂) n₂) :: tl) → (PairsIn tl ws ds) → ((∀ q ∈ tl, q.2.cls = .type "tuple")) → ((kn, ds) = (ps.take i).foldl (stepML B at' mo) (2, [])) → (m' (Str.ofString "chains") = some (.ref c.x)) → (m' (Str.ofString "at") = some (.int at' t)) → (m' (Str.ofString "most_length") = some (.int mo z)) → (m' (Str.ofString "found") = some (.ref l)) → (IntIs m' (Str.ofString "known") kn) → JMbl w B c at' mo t z ps pws pn oh₂ vs₂ n₂ l pl i m' nw
inductive JMbi (w : World) (B : List UInt8) (c : ChAt) (at' mo b : Int) (t z tb t₄ : Tok) (pws : List Value) (pn : Nat) (oh₂ : Obj) (vs₂ : List Value) (n₂ : Nat) (l pl I : Addr) (o : Obj) (cl kn : Nat) (ds : List (Int × Int)) (nn : Nat) (m' : Str → Option Value) (nw : List (Addr × Obj)) : Prop
  | mk (ws₁ : List Value) (n₁ : Nat) (tl₁ : List (Addr × Obj)) (j : Nat) : (nw = (l, PySem.W.listOf (List.toArray ws₁) n₁) :: (I, o) :: (pl, PySem.W.listOf (List.toArray pws) pn) :: (c.x, instObj 99 c.dx) :: (c.dx, dictOf (chDict w.params B c.hd c.er c.tb c.t1 c.t2 c.t3) 3) :: (c.hd, oh₂) :: (c.er, PySem.W.listOf (List.toArray vs₂) n₂) :: tl₁) → (j ≤ cl - kn) → (nn = cl - kn - j) → (PairsIn tl₁ ws₁ (ds ++ (List.range j).map fun j => (((kn + 1 + j : Nat) : Int), at' - b))) → ((∀ q ∈ tl₁, q.2.cls = .type "tuple")) → (m' (Str.ofString "chains") = some (.ref c.x)) → (m' (Str.ofString "at") = some (.int at' t)) → (m' (Str.ofString "most_length") = some (.int mo z)) → (m' (Str.ofString "found") = some (.ref l)) → (m' (Str.ofString "back") = some (.int b tb)) → (m' (Str.ofString "length") = some (.int cl t₄)) → (IntIs m' (Str.ofString "known") (kn + j : Nat)) → JMbi w B c at' mo b t z tb t₄ pws pn oh₂ vs₂ n₂ l pl I o cl kn ds nn m' nw
section
variable {w : World} {h₀ : Heap} {mg mb : Str → Option Value} {p : Program} {loose : List Str} {mean : ExcName → Option Value} {s : Shared} {dp un : Nat} {fr : Option (List Env)} {gd : Option (List Code)} {Q E : Value → Shared → Prop}

theorem c_matches_by_length {B : List UInt8} {c : ChAt} {k : Nat} {at' far mo : Int} {tr : Nat} {t u v z : Tok} (X : (hd.heap_39 w.params).In h₀) (T : Top p loose mean mg mb h₀) (hst : h₀.StaysIn s.heap)
    (hB : B.length ≤ 20) (h0 : 0 ≤ at') (h1 : at' ≤ B.length) (hk : k ≤ at'.toNat) (h2 : 0 ≤ far) (h3 : far ≤ 20) (h4 : tr ≤ 8) (h5 : 0 ≤ mo) (h6 : mo ≤ 10) (hd : dp + 5 < recursionLimit) (hu : un + 60 < cLine) (hc0 : ∀ a ∈ c.adr, h₀.get? a = none)
    (hC : ChainsAt w B c k s.heap)
    (hq : ∀ h' tk' l ws n' tl, (hideAll s.heap c.adr).StaysIn h' → ChainsAt w B c at'.toNat h' → s.heap.get? l = none → h'.get? l = some (PySem.W.listOf (List.toArray ws) n') →
      (∀ q ∈ tl, h'.get? q.1 = some q.2 ∧ s.heap.get? q.1 = none ∧ q.2.cls = .type "tuple") → PairsIn tl ws (mbl B at' mo (placesI B at'.toNat at' far tr)) → Q (.ref l) { s with heap := h', toks := tk' }) :
    wpAny (model PR w) (arnd dp un fr gd) (call (.ref 132) [.ref c.x, .int at' t, .int far u, .int mo z, .int tr v] []) Q E s := by
  have hat20 : at'.toNat ≤ 20 := Int.toNat_le.mpr (Int.le_trans h1 (Int.ofNat_le.mpr hB))
  obtain ⟨oh, vs, n, ok, hget⟩ := ch_parts hC
  walk_at "my enterT"
  case ts => exact chLed w.params B c oh vs n
  case hT =>
    intro q hq
    refine ⟨hc0 _ ?_, hget q hq⟩
    simp only [List.mem_cons, List.not_mem_nil, or_false] at hq ⊢
    rcases hq with rfl | rfl | rfl | rfl <;> simp
  clear X T
  intro L' h₁ F N X T hL
  try dsimp only
  generalize hg : hideAll s.heap _ = g at F N X T
  replace hg : hideAll s.heap c.adr = g := hg
  obtain ⟨q1, q2, q3⟩ := ok.lts
  have ha : c.adr = [c.x, c.dx, c.hd, c.er] := rfl
  k_steps
  rename Fr _ _ _ _ => F
  rename News _ _ _ _ => N
  rename (@LT.lt Nat _ c.x _ ∧ _) => l4
  refine name_first N fun l hl => ?_
  subst hl
  have fr := ch_fresh N (fun q hq => .tail _ hq)
  refine unstop (c_put (c := c) (k := k) X T F.keep hB (Nat.le_trans hk hat20) (Int.le_trans h1 (Int.ofNat_le.mpr hB)) (by walk_at "my room") (by walk_at "my room") (fun a h => (fr a h).1) (ch_make ok fun q hq => (N q (.tail _ hq)).1) ?_)
  intro h₂ tk₂ hst₂ hC₂
  rw [Nat.max_eq_right hk] at hC₂
  obtain ⟨oh₂, vs₂, n₂, ok₂, F₂, N₂⟩ := ch_after (rest := [(l, PySem.W.listOf (List.toArray []) 0)]) F N (fun q hq => .tail _ hq) hst₂ hC₂ (by
    intro q hq
    rw [List.mem_singleton.mp hq]
    refine ⟨.head _, ?_⟩
    simp only [ha, List.mem_cons, List.not_mem_nil, or_false]
    rintro (e | e | e | e) <;> (have e' : @Eq Nat _ _ := e; first | exact absurd e' (by k_ne) | omega))
  clear F N hst₂ hC₂ ok hget hC fr oh vs n
  try dsimp only
  k_steps
  refine unstop (for_inv (h₀ := g) (L := L') ?_)
  k_steps
  have fr := ch_fresh N₂ (fun q hq => List.mem_append_left _ hq)
  refine unstop (c_places (c := c) (k := at'.toNat) X T F₂.keep hB hat20 h0 (Int.le_trans h1 (Int.ofNat_le.mpr hB)) h2 h3 h4 (by walk_at "my room") (by walk_at "my room") (fun a h => (fr a h).1) (ch_make ok₂ fun q hq => (N₂ q (List.mem_append_left _ hq)).1) ?_)
  intro h₃ tk₃ pl pws pn hst₃ hpl₁ hpl₂ hpi
  have F := fr_after0 F₂ hst₃
  have hne := news_ne N₂ hpl₁
  have N := news_cons' F₂ (news_after0 N₂ hst₃) hpl₁ hpl₂
  clear F₂ N₂ hst₃ hpl₁ hpl₂ fr
  k_steps
  have hne1 : @Ne Nat l pl := hne (l, _) (List.mem_append_right _ (.head _))
  have hne2 : @Ne Nat c.x pl := hne (c.x, _) (List.mem_append_left _ (.head _))
  have hne3 : @Ne Nat c.dx pl := hne (c.dx, _) (List.mem_append_left _ (.tail _ (.head _)))
  have hne4 : @Ne Nat c.hd pl := hne (c.hd, _) (List.mem_append_left _ (.tail _ (.tail _ (.head _))))
  have hne5 : @Ne Nat c.er pl := hne (c.er, _) (List.mem_append_left _ (.tail _ (.tail _ (.tail _ (.head _)))))
  have hoc₂ := ok₂.cls
  generalize hps : placesI B at'.toNat at' far tr = ps at hpi hq
  have hpsm : ∀ b ∈ ps, 0 ≤ b ∧ b < at' := fun b hb => by
    rw [← hps] at hb
    have hm := placesI_mem hb
    rw [Int.toNat_of_nonneg h0] at hm
    exact hm
  clear hne
  refine unstop (iter_list (ws := pws) (n₀ := pn) (J := JMbl w B c at' mo t z ps pws pn oh₂ vs₂ n₂ l pl)
    rfl F (news_sub N ?hsub) ⟨[], 0, [], 2, [], rfl, .nil, (fun _ h => nomatch h), rfl, rfl, rfl, rfl, rfl, ⟨_, _, rfl, rfl⟩⟩ ?hcl ?hkp ?turn ?done)
  case hsub =>
    intro q hq
    simp only [List.mem_cons, List.mem_append, List.not_mem_nil, or_false] at hq ⊢
    rcases hq with h | h | h | h | h | h <;> simp [h]
  case hcl =>
    rintro i m nw ⟨ws, n, tl, kn, ds, rfl, hpr, htl, _⟩ q hq
    simp only [List.mem_cons] at hq
    rcases hq with rfl | rfl | rfl | rfl | rfl | rfl | hq
    · simp
    · simp
    · simp
    · simp
    · show oh₂.cls ≠ _; rw [hoc₂]; simp
    · simp
    · rw [htl q hq]; simp
  case hkp =>
    rintro i m nw ⟨ws, n, tl, kn, ds, rfl, _⟩
    exact .tail _ (.head _)
  case turn =>
    clear F N
    rintro i vv h tk m nw o I hv ⟨ws, n, tl, kn, ds, rfl, hpr, htl, hfo, m1, m2, m3, m4, ⟨_, tkn, m5, rfl⟩⟩ ho F N hI QT hQT
    obtain ⟨b, tb, hb, rfl⟩ := ints_at hpi hv
    refine wpAny_assign_Name (storeX_L (cl := []) F N ?_)
    clear F N
    intro h' F N
    k_steps
    have hbm := hpsm b (List.mem_of_getElem? hb)
    refine unstop (c_common_length X T F.keep hB hbm.1 hbm.2 h1 h5 h6 (by walk_at "my room") (by walk_at "my room") ?_)
    intro h₄ tk₄ t₄ hst₄
    replace F := fr_after0 F hst₄
    replace N := news_after0 N hst₄
    clear hst₄
    generalize hcl : comm B b.toNat at'.toNat (min (B.length - at') mo).toNat = cl at F
    have hcl10 : cl ≤ 10 := by rw [← hcl]; exact Nat.le_trans (comm_le _ _ _ _) (min_to (n := 10) h6)
    have hIl : @Ne Nat I l := Ne.symm (hI (l, _) (.head _))
    have hbd := stepML_bound (B := B) (at' := at') h6 (ps.take i) (2, []) (by decide) (by decide)
    rw [← hfo] at hbd
    dsimp only at hbd
    k_steps
    rename Fr _ _ _ _ => F
    rename News _ _ _ _ => N
    refine unstop (while_inv (JMbi w B c at' mo b t z tb t₄ pws pn oh₂ vs₂ n₂ l pl I o cl kn ds)
      (cl - kn) F (news_sub N ?hsub2) ⟨ws, n, tl, 0, rfl, Nat.zero_le _, rfl, by simpa using hpr, htl, by walk_at "my look", by walk_at "my look", by walk_at "my look", by walk_at "my look", by walk_at "my look", by walk_at "my look", ⟨_, _, by walk_at "my look", rfl⟩⟩ ?_)
    case hsub2 =>
      walk_at "my sub"
    clear F N
    rintro nn h tk m nw F N ⟨ws₁, n₁, tl₁, j, rfl, hj, hnn, hpr₁, htl₁, e1, e2, e3, e4, e5, e6, ⟨_, tvk, e7, rfl⟩⟩ QI hQI
    have htln : ∀ q ∈ tl₁, @Ne Nat q.1 l := fun q hq => news_cls_ne N (List.Mem.tail _ (.tail _ (.tail _ (.tail _ (.tail _ (.tail _ (.tail _ hq))))))) (.head _) (by rw [htl₁ q hq]; simp)
    have hlen := hpr₁.length
    rw [List.length_append, List.length_map, List.length_range] at hlen
    have hws20 : ws₁.length ≤ 10 + 10 := by rw [hlen]; exact Nat.add_le_add (Nat.le_trans hbd.2 hbd.1) (Nat.le_trans hj (Nat.le_trans (Nat.sub_le _ _) hcl10))
    k_steps
    · rename Fr _ _ _ _ => F
      rename News _ _ _ _ => N
      refine name_first2 N fun a oa ha hoa => ?_
      subst ha
      rw [← hoa] at N
      rename ((_ : Int) < (_ : Int)) => hlt
      have hjl : j < cl - kn := Nat.lt_sub_of_add_lt (by rw [Nat.add_comm]; exact Int.ofNat_lt.mp hlt)
      rw [show ((kn + j : Nat) : Int) + 1 = ((kn + 1 + j : Nat) : Int) by rw [Nat.add_right_comm]; rfl] at hoa
      refine hQI _ _ <| LEnd.intro F (news_sub N ?_) ⟨cl - kn - (j + 1), hnn ▸ Nat.sub_lt_sub_left hjl (Nat.lt_succ_self j), ws₁ ++ [.ref a], n₁ + 1, (a, oa) :: tl₁, j + 1, rfl, hjl, rfl, ?_, ?_,
        by walk_at "my look", by walk_at "my look", by walk_at "my look", by walk_at "my look", by walk_at "my look", by walk_at "my look", ⟨_, _, by walk_at "my look", rfl⟩⟩
      · walk_at "my sub"
      · rw [List.range_succ, List.map_append, ← List.append_assoc]
        exact (hpr₁.mono fun q hq => .tail _ hq).snoc ⟨a, _, _, rfl, by rw [hoa]; exact .head _⟩
      · intro q hq
        rcases List.mem_cons.mp hq with rfl | hq
        · rw [hoa]
        · exact htl₁ q hq
    · rename (¬ (_ : Int) < (_ : Int)) => hlt
      have hjc : cl - kn = j := Nat.le_antisymm (Nat.sub_le_of_le_add (by rw [Nat.add_comm]; exact Nat.le_of_not_lt fun e => hlt (Int.ofNat_lt.mpr e))) hj
      refine hQT _ _ <| LEnd.intro F (news_sub N ?_) ⟨_, rfl, ws₁, n₁, tl₁, max kn cl, ds ++ (List.range j).map fun j => (((kn + 1 + j : Nat) : Int), at' - b), rfl, hpr₁, htl₁, ?_, e1, e2, e3, e4, ⟨_, _, e7, by rw [max_add, hjc]⟩⟩
      · walk_at "my sub"
      · rw [List.take_add_one, hb, Option.toList_some, List.foldl_append, ← hfo, List.foldl_cons, List.foldl_nil]
        unfold stepML
        dsimp only
        rw [hcl, hjc]
  case done =>
    clear F N
    rintro h' tk m nw F N ⟨ws, n, tl, kn, ds, rfl, hpr, htl, hfo, m1, m2, m3, m4, m5⟩
    k_steps
    dsimp only
    rw [hpi.length, List.take_length] at hfo
    refine hq _ _ l ws n tl (hg ▸ F.keep) (ch_make (n := n₂) ok₂ fun q hq => (N q (.tail _ (.tail _ (List.mem_append_left tl hq)))).1) (fresh_of hg (N.fresh (.head _)) ?_) (N.get (.head _)) (fun q hq => ⟨?_, fresh_of hg (N q ?_).2.2 ?_, htl q hq⟩) ?_
    · rw [ha]
      simp only [List.mem_cons, List.not_mem_nil, or_false]
      rintro (e | e | e | e) <;> (have e' : @Eq Nat _ _ := e; first | exact absurd e' (by k_ne) | omega)
    · exact (N q (List.Mem.tail _ (.tail _ (.tail _ (.tail _ (.tail _ (.tail _ hq))))))).1
    · exact List.Mem.tail _ (.tail _ (.tail _ (.tail _ (.tail _ (.tail _ hq)))))
    · have hqm : q ∈ (l, PySem.W.listOf (List.toArray ws) n) :: (pl, PySem.W.listOf (List.toArray pws) pn) :: (c.x, instObj 99 c.dx) :: (c.dx, dictOf (chDict w.params B c.hd c.er c.tb c.t1 c.t2 c.t3) 3) :: (c.hd, oh₂) :: (c.er, PySem.W.listOf (List.toArray vs₂) n₂) :: tl :=
        List.Mem.tail _ (.tail _ (.tail _ (.tail _ (.tail _ (.tail _ hq)))))
      have ht := htl q hq
      have n1 := news_cls_ne N hqm (.tail _ (.tail _ (.head _))) (by rw [ht]; simp)
      have n2 := news_cls_ne N hqm (.tail _ (.tail _ (.tail _ (.head _)))) (by rw [ht]; simp)
      have n3 := news_cls_ne N hqm (.tail _ (.tail _ (.tail _ (.tail _ (.head _))))) (by rw [ht, hoc₂]; simp)
      have n4 := news_cls_ne N hqm (.tail _ (.tail _ (.tail _ (.tail _ (.tail _ (.head _)))))) (by rw [ht]; simp)
      rw [ha]
      simp only [List.mem_cons, List.not_mem_nil, or_false]
      rintro (e | e | e | e)
      · exact n1 e
      · exact n2 e
      · exact n3 e
      · exact n4 e
    · unfold mbl
      rw [← hfo]
      exact hpr
end
example {M : PySem.Model} {A : PySem.Around} {t : PySem.Sem Unit} {Q : Unit → PySem.Shared → Prop} {E : PySem.Value → PySem.Shared → Prop} {s : PySem.Shared} (h : PySem.wpAny M A t Q E s) : PySem.wpAny M A t Q E s := by first | (walk1; fail) | exact h




theorem tup_off {g h : Heap} {L : Addr} {nw : List (Addr × Obj)} {P : Params} {B : List UInt8} {c : ChAt} {oh : Obj} {vs : List Value} {n : Nat} {q : Addr × Obj} (N : News g L h nw) (hs : ∀ q ∈ chLed P B c oh vs n, q ∈ nw) (hoc : oh.cls = .type "dict")
    (hq : q ∈ nw) (ht : q.2.cls = .type "tuple") : q.1 ∉ c.adr := by
  have n1 := news_cls_ne N hq (hs _ (.head _)) (by rw [ht]; simp)
  have n2 := news_cls_ne N hq (hs _ (.tail _ (.head _))) (by rw [ht]; simp)
  have n3 := news_cls_ne N hq (hs _ (.tail _ (.tail _ (.head _)))) (by rw [ht, hoc]; simp)
  have n4 := news_cls_ne N hq (hs _ (.tail _ (.tail _ (.tail _ (.head _))))) (by rw [ht]; simp)
  simp only [List.mem_cons, List.not_mem_nil, or_false]
  rintro (e | e | e | e)
  · exact n1 e
  · exact n2 e
  · exact n3 e
  · exact n4 e
/-- match_at, a turn -/
def stepMA (B : List UInt8) (at' mo : Int) (st : Int × Int) (b : Int) : Int × Int :=
  if st.1 < (comm B b.toNat at'.toNat (min (B.length - at') mo).toNat : Int) then ((comm B b.toNat at'.toNat (min (B.length - at') mo).toNat : Int), at' - b) else st
def matchI (B : List UInt8) (at' mo : Int) (ps : List Int) : Int × Int := if 3 ≤ (ps.foldl (stepMA B at' mo) (0, 0)).1 then ps.foldl (stepMA B at' mo) (0, 0) else (0, 0)



inductive JMat (w : World) (B : List UInt8) (c : ChAt) (at' mo : Int) (t z : Tok) (ps : List Int) (pws : List Value) (pn : Nat) (oh₂ : Obj) (vs₂ : List Value) (n₂ : Nat) (pl : Addr) (i : Nat) (m' : Str → Option Value) (nw : List (Addr × Obj)) : Prop
  | mk (a : Addr) (t₁ t₂ : Tok) (b : Int × Int) : (nw = (a, tup2 b.1 t₁ b.2 t₂) :: (pl, PySem.W.listOf (List.toArray pws) pn) :: (c.x, instObj 99 c.dx) :: (c.dx, dictOf (chDict w.params B c.hd c.er c.tb c.t1 c.t2 c.t3) 3) :: (c.hd, oh₂) :: (c.er, PySem.W.listOf (List.toArray vs₂) n₂) :: []) → (b = (ps.take i).foldl (stepMA B at' mo) (0, 0)) → (m' (Str.ofString "chains") = some (.ref c.x)) → (m' (Str.ofString "at") = some (.int at' t)) → (m' (Str.ofString "most_length") = some (.int mo z)) → (m' (Str.ofString "best") = some (.ref a)) → JMat w B c at' mo t z ps pws pn oh₂ vs₂ n₂ pl i m' nw
section
variable {w : World} {h₀ : Heap} {mg mb : Str → Option Value} {p : Program} {loose : List Str} {mean : ExcName → Option Value} {s : Shared} {dp un : Nat} {fr : Option (List Env)} {gd : Option (List Code)} {Q E : Value → Shared → Prop}

theorem c_match_at {B : List UInt8} {c : ChAt} {k : Nat} {at' far mo : Int} {tr : Nat} {t u v z : Tok} (X : (hd.heap_39 w.params).In h₀) (T : Top p loose mean mg mb h₀) (hst : h₀.StaysIn s.heap)
    (hB : B.length ≤ 20) (h0 : 0 ≤ at') (h1 : at' ≤ B.length) (hk : k ≤ at'.toNat) (h2 : 0 ≤ far) (h3 : far ≤ 20) (h4 : tr ≤ 8) (h5 : 0 ≤ mo) (h6 : mo ≤ 10) (hd : dp + 5 < recursionLimit) (hu : un + 60 < cLine) (hc0 : ∀ a ∈ c.adr, h₀.get? a = none)
    (hC : ChainsAt w B c k s.heap)
    (hq : ∀ h' tk' a t' u', (hideAll s.heap c.adr).StaysIn h' → ChainsAt w B c at'.toNat h' → s.heap.get? a = none →
      h'.get? a = some (tup2 (matchI B at' mo (placesI B at'.toNat at' far tr)).1 t' (matchI B at' mo (placesI B at'.toNat at' far tr)).2 u') → Q (.ref a) { s with heap := h', toks := tk' }) :
    wpAny (model PR w) (arnd dp un fr gd) (call (.ref 117) [.ref c.x, .int at' t, .int far u, .int mo z, .int tr v] []) Q E s := by
  have hat20 : at'.toNat ≤ 20 := Int.toNat_le.mpr (Int.le_trans h1 (Int.ofNat_le.mpr hB))
  obtain ⟨oh, vs, n, ok, hget⟩ := ch_parts hC
  walk_at "my enterT"
  case ts => exact chLed w.params B c oh vs n
  case hT =>
    intro q hq
    refine ⟨hc0 _ ?_, hget q hq⟩
    simp only [List.mem_cons, List.not_mem_nil, or_false] at hq ⊢
    rcases hq with rfl | rfl | rfl | rfl <;> simp
  clear X T
  intro L' h₁ F N X T hL
  try dsimp only
  generalize hg : hideAll s.heap _ = g at F N X T
  replace hg : hideAll s.heap c.adr = g := hg
  obtain ⟨q1, q2, q3⟩ := ok.lts
  have ha : c.adr = [c.x, c.dx, c.hd, c.er] := rfl
  k_steps
  rename Fr _ _ _ _ => F
  rename News _ _ _ _ => N
  rename (@LT.lt Nat _ c.x _ ∧ _) => l4
  refine name_first2 N fun l ob hl hob => ?_
  subst hl
  rw [← hob] at N
  have fr := ch_fresh N (fun q hq => .tail _ hq)
  refine unstop (c_put (c := c) (k := k) X T F.keep hB (Nat.le_trans hk hat20) (Int.le_trans h1 (Int.ofNat_le.mpr hB)) (by walk_at "my room") (by walk_at "my room") (fun a h => (fr a h).1) (ch_make ok fun q hq => (N q (.tail _ hq)).1) ?_)
  intro h₂ tk₂ hst₂ hC₂
  rw [Nat.max_eq_right hk] at hC₂
  obtain ⟨oh₂, vs₂, n₂, ok₂, F₂, N₂⟩ := ch_after (rest := [(l, ob)]) F N (fun q hq => .tail _ hq) hst₂ hC₂ (by
    intro q hq
    rw [List.mem_singleton.mp hq]
    refine ⟨.head _, ?_⟩
    simp only [ha, List.mem_cons, List.not_mem_nil, or_false]
    rintro (e | e | e | e) <;> (have e' : @Eq Nat _ _ := e; first | exact absurd e' (by k_ne) | omega))
  clear F N hst₂ hC₂ ok hget hC fr oh vs n
  try dsimp only
  k_steps
  refine unstop (for_inv (h₀ := g) (L := L') ?_)
  k_steps
  have fr := ch_fresh N₂ (fun q hq => List.mem_append_left _ hq)
  refine unstop (c_places (c := c) (k := at'.toNat) X T F₂.keep hB hat20 h0 (Int.le_trans h1 (Int.ofNat_le.mpr hB)) h2 h3 h4 (by walk_at "my room") (by walk_at "my room") (fun a h => (fr a h).1) (ch_make ok₂ fun q hq => (N₂ q (List.mem_append_left _ hq)).1) ?_)
  intro h₃ tk₃ pl pws pn hst₃ hpl₁ hpl₂ hpi
  have F := fr_after0 F₂ hst₃
  have N := news_cons' F₂ (news_after0 N₂ hst₃) hpl₁ hpl₂
  clear F₂ N₂ hst₃ hpl₁ hpl₂ fr
  k_steps
  have hoc₂ := ok₂.cls
  generalize hps : placesI B at'.toNat at' far tr = ps at hpi hq
  have hpsm : ∀ b ∈ ps, 0 ≤ b ∧ b < at' := fun b hb => by
    rw [← hps] at hb
    have hm := placesI_mem hb
    rw [Int.toNat_of_nonneg h0] at hm
    exact hm
  refine unstop (iter_list (ws := pws) (n₀ := pn) (J := JMat w B c at' mo t z ps pws pn oh₂ vs₂ n₂ pl)
    rfl F (news_sub N ?hsub) ⟨l, _, _, (0, 0), by rw [← show _ = tup2 0 _ 0 _ from hob], rfl, rfl, rfl, rfl, rfl⟩ ?hcl ?hkp ?turn ?done)
  case hsub =>
    walk_at "my sub"
  case hcl =>
    rintro i m nw ⟨a, t₁, t₂, b, rfl, _⟩ q hq
    simp only [List.mem_cons, List.not_mem_nil, or_false] at hq
    rcases hq with rfl | rfl | rfl | rfl | rfl | rfl
    · simp
    · simp
    · simp
    · simp
    · show oh₂.cls ≠ _; rw [hoc₂]; simp
    · simp
  case hkp =>
    rintro i m nw ⟨a, t₁, t₂, b, rfl, _⟩
    exact .tail _ (.head _)
  case turn =>
    clear F N
    rintro i vv h tk m nw o I hv ⟨a, t₁, t₂, bb, rfl, hfo, m1, m2, m3, m4⟩ ho F N hI QT hQT
    obtain ⟨b, tb, hb, rfl⟩ := ints_at hpi hv
    refine wpAny_assign_Name (storeX_L (cl := []) F N ?_)
    clear F N
    intro h' F N
    k_steps
    have hbm := hpsm b (List.mem_of_getElem? hb)
    refine unstop (c_common_length X T F.keep hB hbm.1 hbm.2 h1 h5 h6 (by walk_at "my room") (by walk_at "my room") ?_)
    intro h₄ tk₄ t₄ hst₄
    replace F := fr_after0 F hst₄
    replace N := news_after0 N hst₄
    clear hst₄
    generalize hcl : comm B b.toNat at'.toNat (min (B.length - at') mo).toNat = cl at F
    k_steps
    · rename Fr _ _ _ _ => F
      rename News _ _ _ _ => N
      refine name_first2 N fun a' oa ha hoa => ?_
      subst ha
      rw [← hoa] at N
      obtain ⟨u', hu'⟩ : ∃ u', oa = tup2 cl t₄ (at' - b) u' := ⟨_, hoa⟩
      clear hoa
      subst hu'
      refine hQT _ _ <| LEnd.intro F (news_sub N ?_) ⟨_, rfl, a', t₄, u', ((cl : Int), at' - b), rfl, ?_, by walk_at "my look", by walk_at "my look", by walk_at "my look", by walk_at "my look"⟩
      · walk_at "my sub"
      · rw [List.take_add_one, hb, Option.toList_some, List.foldl_append, ← hfo, List.foldl_cons, List.foldl_nil]
        unfold stepMA
        rw [hcl, if_pos (by assumption)]
    · rename Fr _ _ _ _ => F
      rename News _ _ _ _ => N
      refine hQT _ _ <| LEnd.intro F N ⟨_, rfl, a, t₁, t₂, bb, rfl, ?_, by walk_at "my look", by walk_at "my look", by walk_at "my look", by walk_at "my look"⟩
      rw [List.take_add_one, hb, Option.toList_some, List.foldl_append, ← hfo, List.foldl_cons, List.foldl_nil]
      unfold stepMA
      rw [hcl, if_neg (by assumption)]
  case done =>
    clear F N
    rintro h' tk m nw F N ⟨a, t₁, t₂, bb, rfl, hfo, m1, m2, m3, m4⟩
    rw [hpi.length, List.take_length] at hfo
    k_steps
    · dsimp only
      refine hq _ _ a t₁ t₂ (hg ▸ F.keep) (ch_make (n := n₂) ok₂ fun q hq => (N q (.tail _ (.tail _ hq))).1) (fresh_of hg (N.fresh (.head _)) (tup_off (c := c) N (fun q hq => .tail _ (.tail _ hq)) hoc₂ (.head _) rfl)) ?_
      rw [matchI, ← hfo, if_pos (by assumption)]
      exact N.get (.head _)
    · rename Fr _ _ _ _ => F
      rename News _ _ _ _ => N
      dsimp only
      have e0 := N.get (.head _)
      have e1 : matchI B at' mo ps = (0, 0) := by rw [matchI, ← hfo, if_neg (by omega)]
      rw [e1] at hq
      exact hq _ _ _ _ _ (hg ▸ F.keep) (ch_make (n := n₂) ok₂ fun q hq => (N q (.tail _ (.tail _ (.tail _ hq)))).1) (fresh_of hg (N.fresh (.head _)) (tup_off (c := c) N (fun q hq => .tail _ (.tail _ (.tail _ hq))) hoc₂ (.head _) rfl)) e0
end
example {M : PySem.Model} {A : PySem.Around} {t : PySem.Sem Unit} {Q : Unit → PySem.Shared → Prop} {E : PySem.Value → PySem.Shared → Prop} {s : PySem.Shared} (h : PySem.wpAny M A t Q E s) : PySem.wpAny M A t Q E s := by first | (walk1; fail) | exact h







theorem name_obj2 {h₀ h : Heap} {L l : Addr} {o : Obj} {a : Addr × Obj} {r : List (Addr × Obj)} {P : Prop} (_ : News h₀ L h (a :: (l, o) :: r)) (k : ∀ l' o', l' = l → o' = o → P) : P := k l o rfl rfl
theorem name_obj4 {h₀ h : Heap} {L l : Addr} {o : Obj} {a b c : Addr × Obj} {r : List (Addr × Obj)} {P : Prop} (_ : News h₀ L h (a :: b :: c :: (l, o) :: r)) (k : ∀ o', o' = o → P) : P := k o rfl

section
variable {w : World} {h₀ : Heap} {mg mb : Str → Option Value} {p : Program} {loose : List Str} {mean : ExcName → Option Value} {s : Shared} {dp un : Nat} {fr : Option (List Env)} {gd : Option (List Code)} {Q E : Value → Shared → Prop}

theorem c_chains {B : List UInt8} {L : Addr} {m : Str → Option Value} {news : List (Addr × Obj)} {tb : Tok} (X : (hd.heap_39 w.params).In h₀) (T : Top p loose mean mg mb h₀) (F : Fr h₀ L s.heap m) (N : News h₀ L s.heap news)
    (hd : dp + 5 < recursionLimit) (hu : un + 60 < cLine)
    (hq : ∀ c oh vs n h' tk', Fr h₀ L h' m → News h₀ L h' (chLed w.params B c oh vs n ++ news) → ChOK w B c 0 oh vs → (∀ q ∈ news, @LT.lt Nat _ q.1 c.dx) → Q (.ref c.x) { s with heap := h', toks := tk' }) :
    wpAny (model PR w) (arnd dp un fr gd) (call (.ref 99) [.bytes B.toArray tb] []) Q E s := by
  refine' call_cls F X N ?k4 ?k5 ?k6 ?_
  (case k4 => k_dflt k_is)
  (case k5 => k_dflt k_is)
  (case k6 => k_dflt k_is)
  intro x dx h₂ F₂ N₂ l1 l2
  replace l2 : @LT.lt Nat _ dx x := l2
  refine' enter ?ts X T F₂.keep ?hT ?k6 ?k7 ?k8 ?k9 ?kB ?_ ?c2 ?c3 ?c4 ?c5
  case ts => exact [(x, instObj 99 dx), (dx, dictOf [] 0)]
  (case k6 => k_dflt k_is)
  (case k7 => k_dflt k_is)
  (case k8 => (simp only [depth_under_make, depth_under_kw, depth_in1, depth_deeper]; omega))
  (case k9 => exact BindsTo.of_eq rfl)
  (case c5 => decide)
  (case kB => exact locs rfl)
  (case c2 => exact rfl)
  (case c3 => exact rfl)
  (case c4 => exact rfl)
  case hT =>
    intro q hq
    simp only [List.mem_cons, List.not_mem_nil, or_false] at hq
    rcases hq with rfl | rfl
    · exact ⟨(N₂ _ (.head _)).2.2, (N₂ _ (.head _)).1⟩
    · exact ⟨(N₂ _ (.tail _ (.head _))).2.2, (N₂ _ (.tail _ (.head _))).1⟩
  clear X T
  intro L' h₁ F N X T hL
  try dsimp only
  generalize hg : hideAll _ _ = g at F N X T
  replace hg : hideAll h₂ [x, dx] = g := hg
  k_steps
  rename Fr _ _ _ _ => F
  rename News _ _ _ _ => N
  refine name_first N fun er h1 => ?_
  subst h1
  refine name_obj2 N fun hda oh h1 h2 => ?_
  subst h1 h2
  refine name_obj4 N fun od h1 => ?_
  rw [← h1] at N
  obtain ⟨t1, t2, t3, h2⟩ : ∃ t1 t2 t3, od = dictOf (chDict w.params B hda er tb t1 t2 t3) 3 := ⟨_, _, _, h1⟩
  clear h1
  subst h2
  rename Obj.IsDictOf (intKind _ _) _ _ => hkv
  have lo : (hda == sysModules) = false := by assumption
  have lb : @LT.lt Nat _ hda er ∧ @LT.lt Nat _ x er ∧ @LT.lt Nat _ dx er := by assumption
  have la : @LT.lt Nat _ x hda ∧ @LT.lt Nat _ dx hda := by assumption
  refine ⟨rfl, ?_⟩
  dsimp only
  have hst : (hideAll h₂ [x, dx]).StaysIn _ := hg ▸ F.keep
  have hb : ∀ q ∈ [(x, instObj 99 dx), (dx, dictOf [] 0)] ++ news, q ∈ (x, instObj 99 dx) :: (dx, dictOf [] 0) :: news := fun q hq => hq
  have fx := N₂ _ (.head _)
  have fdx := N₂ _ (.tail _ (.head _))
  have low : ∀ a : Addr, g.get? a = none → @LT.lt Nat _ x a → h₀.get? a = none ∧ a ≠ L := fun a e la => by
    have e2 : h₂.get? a = none := fresh_of hg e (by
      simp only [List.mem_cons, List.not_mem_nil, or_false]
      rintro (e | e) <;> (have e' : @Eq Nat _ _ := e; first | exact absurd e' (by k_ne) | omega))
    refine ⟨?_, fun q => ?_⟩
    · cases e3 : h₀.get? a with
      | none => rfl
      | some o => rw [F₂.keep _ _ e3] at e2; cases e2
    · obtain ⟨oL, _, _, e3, _⟩ := F₂.ns; rw [← q, e2] at e3; cases e3
  have m1 := N _ (.head _)
  have m2 := N _ (.tail _ (.head _))
  have m3 := N _ (.tail _ (.tail _ (.head _)))
  have m4 := N _ (.tail _ (.tail _ (.tail _ (.head _))))
  refine hq ⟨x, dx, hda, er, tb, t1, t2, t3⟩ oh [] 0 _ _ (fr_after F₂ hst ?_ ?_) ?_ ⟨l2, la.1, lb.1, lo, ⟨[], hkv, fun key => .inl ⟨rfl, rfl⟩, Nat.le_refl _⟩, .nil⟩ l1
  · intro a h
    simp only [List.mem_cons, List.not_mem_nil, or_false] at h
    rcases h with rfl | rfl
    · exact fx.2.2
    · exact fdx.2.2
  · intro h
    simp only [List.mem_cons, List.not_mem_nil, or_false] at h
    rcases h with h | h
    · exact fx.2.1 h.symm
    · exact fdx.2.1 h.symm
  · intro q h
    rcases List.mem_append.mp h with h | h
    · simp only [List.mem_cons, List.not_mem_nil, or_false] at h
      rcases h with rfl | rfl | rfl | rfl
      · exact ⟨m3.1, fx.2.1, fx.2.2⟩
      · exact ⟨m4.1, fdx.2.1, fdx.2.2⟩
      · exact ⟨m2.1, (low _ m2.2.2 la.1).2, (low _ m2.2.2 la.1).1⟩
      · exact ⟨m1.1, (low _ m1.2.2 lb.2.1).2, (low _ m1.2.2 lb.2.1).1⟩
    · refine news_after (news_sub N₂ fun q h => .tail _ (.tail _ h)) hst (news := news) (fun q h => ?_) q h
      have this : @LT.lt Nat _ q.1 dx := l1 q h
      simp only [List.mem_cons, List.not_mem_nil, or_false]
      rintro (e | e) <;> (have e' : @Eq Nat _ _ := e; first | exact absurd e' (by k_ne) | omega)
end
example {M : PySem.Model} {A : PySem.Around} {t : PySem.Sem Unit} {Q : Unit → PySem.Shared → Prop} {E : PySem.Value → PySem.Shared → Prop} {s : PySem.Shared} (h : PySem.wpAny M A t Q E s) : PySem.wpAny M A t Q E s := by first | (walk1; fail) | exact h





/-- a part: an octet, or a length with a distance -/
abbrev Part := Int ⊕ (Int × Int)
def PartIn (tl : List (Addr × Obj)) (v : Value) (p : Part) : Prop := match p with
  | .inl i => ∃ t, v = .int i t
  | .inr d => PairIn tl v d
inductive PartsIn (tl : List (Addr × Obj)) : List Value → List Part → Prop
  | nil : PartsIn tl [] []
  | cons {v : Value} {d : Part} {ws : List Value} {ds : List Part} : PartIn tl v d → PartsIn tl ws ds → PartsIn tl (v :: ws) (d :: ds)
theorem PartIn.mono {tl tl' : List (Addr × Obj)} {v : Value} {d : Part} (h : PartIn tl v d) (hs : ∀ q ∈ tl, q ∈ tl') : PartIn tl' v d := by
  cases d with
  | inl i => exact h
  | inr d => exact PairIn.mono h hs
theorem PartsIn.mono {tl tl' : List (Addr × Obj)} {ws : List Value} {ds : List Part} (h : PartsIn tl ws ds) (hs : ∀ q ∈ tl, q ∈ tl') : PartsIn tl' ws ds := by
  induction h with
  | nil => exact .nil
  | cons a _ ih => exact .cons (a.mono hs) ih
theorem PartsIn.snoc {tl : List (Addr × Obj)} {ws : List Value} {ds : List Part} {v : Value} {d : Part} (h : PartsIn tl ws ds) (hv : PartIn tl v d) : PartsIn tl (ws ++ [v]) (ds ++ [d]) := by
  induction h with
  | nil => exact .cons hv .nil
  | cons a _ ih => exact .cons a ih
theorem PartsIn.length {tl : List (Addr × Obj)} {ws : List Value} {ds : List Part} (h : PartsIn tl ws ds) : ws.length = ds.length := by
  induction h with
  | nil => rfl
  | cons _ _ ih => simp [ih]

theorem PartIn.pair {tl : List (Addr × Obj)} {a : Addr} {d : Int × Int} {t u : Tok} (h : (a, tup2 d.1 t d.2 u) ∈ tl) : PartIn tl (.ref a) (.inr d) := ⟨a, t, u, rfl, h⟩
theorem PartIn.oct {tl : List (Addr × Obj)} {i : Int} {t : Tok} : PartIn tl (.int i t) (.inl i) := ⟨t, rfl⟩
theorem news_reput {h₀ h : Heap} {L l : Addr} {o o' : Obj} {nw rest : List (Addr × Obj)} (N : News h₀ L h nw) (hl : h.get? l = some o) (hm : (l, o') ∈ nw) (hs : ∀ q ∈ rest, q ∈ nw) : News h₀ L h ((l, o) :: rest) := fun q hq => by
  rcases List.mem_cons.mp hq with rfl | hq
  · exact ⟨hl, (N _ hm).2⟩
  · exact N q (hs q hq)

def bestI (B : List UInt8) (far mo : Int) (tr : Nat) (a : Nat) : Int × Int := matchI B a mo (placesI B a a far tr)
def findI (B : List UInt8) (far mo : Int) (tr : Nat) (a : Nat) : List Part :=
  if a < B.length then
    if 0 < (bestI B far mo tr a).1 then .inr (bestI B far mo tr a) :: findI B far mo tr (a + (bestI B far mo tr a).1.toNat)
    else .inl (byteI B a) :: findI B far mo tr (a + 1)
  else []
termination_by B.length - a
decreasing_by all_goals omega



theorem go_on {a L nn : Nat} {x : Int} (hlt : a < L) (hn : nn = L - a) (h0 : 0 < x) : L - (a + x.toNat) < nn := hn ▸ Nat.sub_lt_sub_left hlt (Nat.lt_add_of_pos_right (Int.lt_toNat.mpr h0))
theorem go_one {a L nn : Nat} (hlt : a < L) (hn : nn = L - a) : L - (a + 1) < nn := hn ▸ Nat.sub_lt_sub_left hlt (Nat.lt_succ_self a)
theorem to_add {a : Nat} {x : Int} (h0 : 0 < x) : (a : Int) + x = ((a + x.toNat : Nat) : Int) := by rw [Int.natCast_add, Int.toNat_of_nonneg (Int.le_of_lt h0)]
theorem len_on {p a : Nat} {x : Int} (h : p ≤ a) (h0 : 0 < x) : p + 1 ≤ a + x.toNat := Nat.add_le_add h (Int.lt_toNat.mpr h0)
inductive JFind (w : World) (B : List UInt8) (c : ChAt) (far mo : Int) (tr : Nat) (tb u v z : Tok) (l : Addr) (nn : Nat) (m' : Str → Option Value) (nw : List (Addr × Obj)) : Prop
  | mk (k : Nat) (oh : Obj) (vs : List Value) (n : Nat) (ws : List Value) (n₁ : Nat) (tl : List (Addr × Obj)) (ps : List Part) (a : Nat) : (nw = (l, PySem.W.listOf (List.toArray ws) n₁) :: (c.x, instObj 99 c.dx) :: (c.dx, dictOf (chDict w.params B c.hd c.er c.tb c.t1 c.t2 c.t3) 3) :: (c.hd, oh) :: (c.er, PySem.W.listOf (List.toArray vs) n) :: tl) → (ChOK w B c k oh vs) → (k ≤ a) → (PartsIn tl ws ps) → (ps.length ≤ a) → ((∀ q ∈ tl, q.2.cls = .type "tuple")) → (ps ++ findI B far mo tr a = findI B far mo tr 0) → (nn = B.length - a) → (m' (Str.ofString "chains") = some (.ref c.x)) → (m' (Str.ofString "octets") = some (.bytes B.toArray tb)) → (m' (Str.ofString "most_back") = some (.int far u)) → (m' (Str.ofString "most_length") = some (.int mo z)) → (m' (Str.ofString "tries") = some (.int tr v)) → (m' (Str.ofString "parts") = some (.ref l)) → (IntIs m' (Str.ofString "at") a) → JFind w B c far mo tr tb u v z l nn m' nw
section
variable {w : World} {h₀ : Heap} {mg mb : Str → Option Value} {p : Program} {loose : List Str} {mean : ExcName → Option Value} {s : Shared} {dp un : Nat} {fr : Option (List Env)} {gd : Option (List Code)} {Q E : Value → Shared → Prop}

theorem c_find_matches {B : List UInt8} {far mo : Int} {tr : Nat} {tb u v z : Tok} (X : (hd.heap_39 w.params).In h₀) (T : Top p loose mean mg mb h₀) (hst : h₀.StaysIn s.heap)
    (hB : B.length ≤ 20) (h2 : 0 ≤ far) (h3 : far ≤ 20) (h4 : tr ≤ 8) (h5 : 0 ≤ mo) (h6 : mo ≤ 10) (hd : dp + 10 < recursionLimit) (hu : un + 100 < cLine)
    (hq : ∀ h' tk' l ws n' tl, s.heap.StaysIn h' → s.heap.get? l = none → h'.get? l = some (PySem.W.listOf (List.toArray ws) n') →
      (∀ q ∈ tl, h'.get? q.1 = some q.2 ∧ s.heap.get? q.1 = none ∧ q.2.cls = .type "tuple") → PartsIn tl ws (findI B far mo tr 0) → Q (.ref l) { s with heap := h', toks := tk' }) :
    wpAny (model PR w) (arnd dp un fr gd) (call (.ref 125) [.bytes B.toArray tb, .int far u, .int mo z, .int tr v] []) Q E s := by
  refine' enter0 (by assumption) (by assumption) (by assumption) ?k6 ?k7 ?k8 ?k9 ?kB ?_ ?c2 ?c3 ?c4 ?c5
  (case k6 => k_dflt k_is)
  (case k7 => k_dflt k_is)
  (case k8 => exact Nat.lt_of_le_of_lt (Nat.le_add_right _ _) hd)
  (case k9 => first | exact BindsTo.of_eq rfl | exact binds_K (X.keeps hst) rfl (by k_is) rfl rfl rfl)
  (case c5 => decide)
  (case kB => exact locs rfl)
  (case c2 => exact rfl)
  (case c3 => exact rfl)
  (case c4 => exact rfl)
  clear X T
  intro L' h₁ F N X T hL
  try dsimp only
  k_steps
  refine unstop (c_chains X T F N (by walk_at "my room") (by walk_at "my room") ?_)
  clear F N
  intro c oh vs n h₂ tk₂ F N ok _
  obtain ⟨q1, q2, q3⟩ := ok.lts
  have ha : c.adr = [c.x, c.dx, c.hd, c.er] := rfl
  replace N : News s.heap L' h₂ ((c.x, instObj 99 c.dx) :: (c.dx, dictOf (chDict w.params B c.hd c.er c.tb c.t1 c.t2 c.t3) 3) :: (c.hd, oh) :: (c.er, PySem.W.listOf (List.toArray vs) n) :: []) := N
  k_steps
  rename Fr _ _ _ _ => F
  rename News _ _ _ _ => N
  rename (@LT.lt Nat _ c.x _ ∧ _) => l4
  refine name_first N fun l hl => ?_
  subst hl
  have hsz := size_cast B
  refine unstop (while_inv (JFind w B c far mo tr tb u v z l) B.length F (news_sub N ?hsub)
    ⟨0, oh, vs, n, [], 0, [], [], 0, rfl, ok, Nat.le_refl _, .nil, Nat.le_refl _, (fun _ h => nomatch h), rfl, rfl, rfl, rfl, rfl, rfl, rfl, rfl, ⟨_, _, rfl, rfl⟩⟩ ?_)
  case hsub =>
    walk_at "my sub"
  clear F N ok oh vs n
  rintro nn h tk m nw F N ⟨k, oh, vs, n, ws, n₁, tl, ps, a, rfl, ok, hka, hpr, hpl, htl, hfi, hnn, m1, m2, m3, m4, m5, m6, ⟨va, ta, m7, hva⟩⟩ QT hQT
  have htln : ∀ q ∈ tl, @Ne Nat q.1 l := fun q hq => news_cls_ne N (List.Mem.tail _ (.tail _ (.tail _ (.tail _ (.tail _ hq))))) (.head _) (by rw [htl q hq]; simp)
  have hlen := hpr.length
  k_steps
  · subst hva
    rename Fr _ _ _ _ => F
    rename News _ _ _ _ => N
    have hlt : a < B.length := Int.ofNat_lt.mp (by rw [← hsz]; assumption)
    have fr := ch_fresh (c := c) N (fun q hq => .tail _ (List.mem_append_left tl hq))
    refine unstop (c_match_at (c := c) (k := k) X T F.keep hB (by omega) (by omega) (by omega) h2 h3 h4 h5 h6 (by walk_at "my room") (by walk_at "my room") (fun b h => (fr b h).1) (ch_make (n := n) ok fun q hq => (N q (.tail _ (List.mem_append_left tl hq))).1) ?_)
    intro h₃ tk₃ ma t₁ t₂ hst₃ hC₃ hm1 hm2
    rw [Int.toNat_natCast] at hC₃ hm2
    replace hm2 : h₃.get? ma = some (tup2 (bestI B far mo tr a).1 t₁ (bestI B far mo tr a).2 t₂) := hm2
    have hne : @Ne Nat l ma := news_ne N hm1 _ (.head _)
    obtain ⟨oh₂, vs₂, n₂, ok₂, F₂, N₂⟩ := ch_after (rest := (l, PySem.W.listOf (List.toArray ws) n₁) :: tl) F N (fun q hq => .tail _ (List.mem_append_left tl hq)) hst₃ hC₃ (by
      intro q hq
      rcases List.mem_cons.mp hq with rfl | hq
      · refine ⟨.head _, ?_⟩
        simp only [ha, List.mem_cons, List.not_mem_nil, or_false]
        rintro (e | e | e | e) <;> (have e' : @Eq Nat _ _ := e; first | exact absurd e' (by k_ne) | omega)
      · have hqm : q ∈ (l, PySem.W.listOf (List.toArray ws) n₁) :: (chLed w.params B c oh vs n ++ tl) := .tail _ (List.mem_append_right _ hq)
        exact ⟨hqm, tup_off (c := c) N (fun q hq => .tail _ (List.mem_append_left tl hq)) ok.cls hqm (htl q hq)⟩)
    have N₃ := news_cons' F N₂ hm1 hm2
    clear F N N₂ hst₃ hC₃ hm1 hm2 fr ok
    rw [findI, if_pos hlt] at hfi
    generalize bestI B far mo tr a = d at hfi N₃
    k_steps
    · rename Fr _ _ _ _ => F
      rename News _ _ _ _ => N
      have hd0 : 0 < d.1 := by assumption
      rw [if_pos hd0] at hfi
      refine hQT _ _ <| LEnd.intro F (news_sub N ?_) ⟨B.length - (a + d.1.toNat), go_on hlt hnn hd0, a, oh₂, vs₂, n₂, ws ++ [.ref ma], n₁ + 1, (ma, tup2 d.1 t₁ d.2 t₂) :: tl, ps ++ [.inr d], a + d.1.toNat, rfl, ok₂, Nat.le_add_right _ _,
        (hpr.mono fun q hq => .tail _ hq).snoc (.pair (.head _)), by rw [List.length_append, List.length_singleton]; exact len_on hpl hd0, ?_, by rw [← hfi, List.append_assoc]; rfl, rfl,
        by walk_at "my look", by walk_at "my look", by walk_at "my look", by walk_at "my look", by walk_at "my look", by walk_at "my look", ⟨_, _, by walk_at "my look", to_add hd0⟩⟩
      · walk_at "my sub"
      · intro q hq
        rcases List.mem_cons.mp hq with rfl | hq
        · rfl
        · exact htl q hq
    · rename Fr _ _ _ _ => F
      rename News _ _ _ _ => N
      have hd0 : ¬ 0 < d.1 := by assumption
      rw [if_neg hd0] at hfi
      obtain ⟨t9, hl9⟩ : ∃ t9, Heap.get? _ l = some (PySem.W.listOf (List.toArray (ws ++ [.int (byteI B a) t9])) (n₁ + 1)) := ⟨_, N.get (a := l) (by k_mem)⟩
      refine hQT _ _ <| LEnd.intro F (news_reput N hl9 (by k_mem) ?_) ⟨B.length - (a + 1), go_one hlt hnn, a, oh₂, vs₂, n₂, ws ++ [.int (byteI B a) t9], n₁ + 1, tl, ps ++ [.inl (byteI B a)], a + 1, rfl, ok₂, Nat.le_succ a,
        hpr.snoc .oct, by rw [List.length_append, List.length_singleton]; exact Nat.succ_le_succ hpl, htl, by rw [← hfi, List.append_assoc]; rfl, rfl,
        by walk_at "my look", by walk_at "my look", by walk_at "my look", by walk_at "my look", by walk_at "my look", by walk_at "my look", ⟨_, _, by walk_at "my look", rfl⟩⟩
      · walk_at "my sub"
  · dsimp only
    have hlt : ¬ a < B.length := by omega
    rw [findI, if_neg hlt, List.append_nil] at hfi
    exact hq _ _ l ws n₁ tl F.keep (N.fresh (.head _)) (N.get (.head _)) (fun q hq => by
      have := N q (List.Mem.tail _ (.tail _ (.tail _ (.tail _ (.tail _ hq)))))
      exact ⟨this.1, this.2.2, htl q hq⟩) (hfi ▸ hpr)
end
section

def codeG (M : Model) (A : Around) (c : Code) (R : Result → Shared → Prop) (s : Shared) : Prop :=
  ∀ Γ p, Γ.code = c → Γ.Below A → (∀ x ∈ Γ.below, isDec x.1 = false) → wpCode M Γ R p s
theorem exp_none (x : Code × Pos) (a : Addr) : x.1.isGuard = false → isDec x.1 = false → (match x with
    | (.builtin "bytearray.__contains__" ⟨v :: _, _⟩, _) | (.builtin "bytearray.__mod__" ⟨v :: _, _⟩, _)
    | (.builtin "bytearray.__rmod__" ⟨_ :: v :: _, _⟩, _) | (.builtin "_struct.pack_into.held" ⟨v :: _, _⟩, _) => Builtin.Bytes.sameRef v (.ref a)
    | (.builtin "bytearray.find.held" ⟨_ :: _ :: held, _⟩, _) => held.any (Builtin.Bytes.sameRef (.ref a))
    | (.builtin id ⟨v :: _, _⟩, _) => Builtin.Bytes.sameRef v (.ref a) && Builtin.Bytes.decodersThatHold.contains id
    | _ => false) = false := by
  intro hg hd
  obtain ⟨c, p⟩ := x
  cases c
  case builtin id args =>
    have h1 : id ≠ "bytearray.__contains__" := by rintro rfl; exact absurd (show guardIds.contains "bytearray.__contains__" = false from hg) (by decide +kernel)
    have h2 : id ≠ "bytearray.__mod__" := by rintro rfl; exact absurd (show guardIds.contains "bytearray.__mod__" = false from hg) (by decide +kernel)
    have h3 : id ≠ "bytearray.__rmod__" := by rintro rfl; exact absurd (show guardIds.contains "bytearray.__rmod__" = false from hg) (by decide +kernel)
    have h4 : id ≠ "_struct.pack_into.held" := by rintro rfl; exact absurd (show guardIds.contains "_struct.pack_into.held" = false from hg) (by decide +kernel)
    have h5 : id ≠ "bytearray.find.held" := by rintro rfl; exact absurd (show guardIds.contains "bytearray.find.held" = false from hg) (by decide +kernel)
    have h6 : Builtin.Bytes.decodersThatHold.contains id = false := hd
    obtain ⟨pos, kw⟩ := args
    delta exp_none.match_1
    dsimp only
    refine (dif_neg h1).trans ((dif_neg h2).trans ((dif_neg h3).trans ((dif_neg h4).trans ((dif_neg h5).trans ?_))))
    cases pos with
    | nil => rfl
    | cons v r => exact (congrArg (Builtin.Bytes.sameRef v (.ref a) && ·) h6).trans (Bool.and_false _)
  all_goals rfl
section
variable {α β : Type} {M : Model} {A : Around} {E E' : Value → Shared → Prop} {s : Shared}
theorem codeG_of {c : Code} {R : Result → Shared → Prop} (h : codeAny M A c R s) : codeG M A c R s := fun Γ p hc hΓ _ => h Γ p hc hΓ
theorem codeG_mono {c : Code} {R R' : Result → Shared → Prop} (h : codeG M A c R s) (hR : ∀ r s, R r s → R' r s) : codeG M A c R' s := fun Γ p hc hΓ hb => wpCode_mono hR (h Γ p hc hΓ hb)
theorem clean_enter {Γ : Ctx} (hc : Clean Γ) (c : Code) (hd : Option Value) (p : Pos) : ∀ x ∈ (Γ.enter c hd p).below, isDec x.1 = false := fun x hx => by
  rcases List.mem_cons.mp (show x ∈ (Γ.code, p) :: Γ.below from hx) with rfl | hx
  · exact hc.1
  · exact hc.2 x hx
theorem wpG_run {c : Code} {Q : Flow → Shared → Prop} (hc : codeG M A c (fun r s' => match r with | .ok f => Q f s' | .error e => E e s') s) : wpG M A (run c none) Q E s :=
  fun Γ p hΓ cl => by rw [Sem.wp_run]; exact hc _ p rfl (hΓ.enter c none p (by intro x; cases x)) (clean_enter cl _ _ _)
theorem wpG_call {f : Value} {pos : List Value} {kw : List (Str × Value)} {Q : Value → Shared → Prop}
    (hc : codeG M A (.call f ⟨pos, kw⟩) (fun r s' => match r with | .ok (.ret v) => Q v s' | .ok _ => False | .error e => E e s') s) : wpG M A (call f pos kw) Q E s :=
  fun Γ p hΓ cl => by
    show Sem.wp M Γ (runValue (.call f ⟨pos, kw⟩)) _ _ p s
    rw [Sem.wp_runValue]
    exact hc _ p rfl (hΓ.enter _ none p (by intro x; cases x)) (clean_enter cl _ _ _)
theorem codeG_of_tree {c : Code} {R : Result → Shared → Prop} (hd : isDec c = false)
    (h : wpG M (A.under c) (M.den c) (fun fin s' => match fin with | .done f => R (.ok f) s' | .again c' => c'.quiet = true ∧ codeG M A c' R s') (fun e s' => R (.error e) s') s) : codeG M A c R s := fun Γ p hc hΓ hb => by
  rw [wpCode_iff_wp, hc]
  refine Sem.wp_mono M Γ _ (fun fin p' s' h' => ?_) (fun _ _ _ h' => h') p s (h Γ p (hc ▸ hΓ.in) ⟨by rw [hc]; exact hd, hb⟩)
  cases fin with
  | done f => exact h'
  | again c' => exact ⟨h'.1, h'.2 (Γ.goto c') p' rfl (hΓ.goto c') hb⟩
theorem codeG_loop {c : Code} {R : Result → Shared → Prop} (hd : isDec c = false) (hq : c.quiet = true) (I : Nat → Shared → Prop)
    (turn : ∀ n s, I n s → wpG M (A.under c) (M.den c)
      (fun fin s' => match fin with | .done f => R (.ok f) s' | .again c' => (c' = c ∧ ∃ m, m < n ∧ I m s') ∨ (c'.quiet = true ∧ codeG M A c' R s')) (fun e s' => R (.error e) s') s)
    (n : Nat) (h : I n s) : codeG M A c R s := by
  induction n using Nat.strongRecOn generalizing s with
  | ind n ih =>
    refine codeG_of_tree hd (wpG_mono (turn n s h) (fun fin s' hf => ?_) fun _ _ h' => h')
    cases fin with
    | done f => exact hf
    | again c' =>
      rcases hf with ⟨rfl, m, hm, hI⟩ | hf
      · exact ⟨hq, ih m hm hI⟩
      · exact hf
theorem wpG_onRaise {m : Sem α} {k : Value → Sem Unit} {Q : α → Shared → Prop} (h : wpG M A m Q (fun _ _ => False) s) : wpG M A (m.onRaise k) Q E s := fun Γ p hΓ hc => by
  rw [Sem.wp_onRaise]
  exact Sem.wp_mono M Γ m (fun _ _ _ h' => h') (fun e p' s' h' => h'.elim) p s (h Γ p hΓ hc)
theorem wpG_holding {vs : List Value} {m : Sem α} {Q : α → Shared → Prop} (h : wpG M A m Q E s) : wpG M A (holding vs m) Q E s := fun Γ p hΓ hc => by rw [Sem.wp_holding]; exact h Γ p hΓ hc
theorem wpG_of_eq {t : Sem α} {a : α} (e : t = pure a) {Q : α → Shared → Prop} (h : Q a s) : wpG M A t Q E s := by subst e; exact wpG_pure h
/-- nothing holds the bytearray -/
theorem wpG_exported {a : Addr} {Q : Bool → Shared → Prop} (hg : A.guards = some []) (h : Q false s) : wpG M A (Builtin.Bytes.exported (.ref a)) Q E s := fun Γ p hΓ hc => by
  have hgs : Γ.code.guards ++ guardsOf Γ.below = [] := hΓ.2.2.2.1 [] hg
  have hng : ∀ x ∈ (Γ.code, p) :: Γ.below, x.1.isGuard = false := by
    intro x hx
    cases hq : x.1.isGuard with
    | false => rfl
    | true =>
      exfalso
      have hm : x.1 ∈ guardsOf ((Γ.code, p) :: Γ.below) := List.mem_filter.mpr ⟨List.mem_map_of_mem hx, hq⟩
      rw [guardsOf_cons, hgs] at hm
      cases hm
  have hnd : ∀ x ∈ (Γ.code, p) :: Γ.below, isDec x.1 = false := by
    intro x hx
    rcases List.mem_cons.mp hx with rfl | hx
    · exact hc.1
    · exact hc.2 x hx
  have key : ∀ l : List (Code × Pos), (∀ x ∈ l, x.1.isGuard = false) → (∀ x ∈ l, isDec x.1 = false) → (l.any fun
    | (.builtin "bytearray.__contains__" ⟨v :: _, _⟩, _) | (.builtin "bytearray.__mod__" ⟨v :: _, _⟩, _)
    | (.builtin "bytearray.__rmod__" ⟨_ :: v :: _, _⟩, _) | (.builtin "_struct.pack_into.held" ⟨v :: _, _⟩, _) => Builtin.Bytes.sameRef v (.ref a)
    | (.builtin "bytearray.find.held" ⟨_ :: _ :: held, _⟩, _) => held.any (Builtin.Bytes.sameRef (.ref a))
    | (.builtin id ⟨v :: _, _⟩, _) => Builtin.Bytes.sameRef v (.ref a) && Builtin.Bytes.decodersThatHold.contains id
    | _ => false) = false := by
    intro l hg hd
    rw [List.any_eq_false]
    intro x hx
    exact Bool.eq_false_iff.mp (exp_none x a (hg x hx) (hd x hx))
  show Q (((Γ.code, p) :: Γ.below).any _) s
  have := key ((Γ.code, p) :: Γ.below) hng hnd
  exact (congrArg (fun b => Q b s) this).mpr h
end

section
variable {prog : Program} {w : World} {A : Around} {E : Value → Shared → Prop} {s : Shared} {env : Env}

theorem wpG_execs_cons {st : Stmt} {rest : List Stmt} {Q : Flow → Shared → Prop} (h : wpG (model prog w) A (exec st env) (fun f s' => match f with | .next => wpG (model prog w) A (execs rest env) Q E s' | f => Q f s') E s) :
    wpG (model prog w) A (execs (st :: rest) env) Q E s := by
  rw [execs_cons]
  refine wpG_bind (wpG_mono h (fun f s' hf => ?_) fun _ _ e => e)
  cases f with
  | next => exact hf
  | brk => exact wpG_pure hf
  | cont => exact wpG_pure hf
  | ret v => exact wpG_pure hf
theorem wpG_execs_nil {Q : Flow → Shared → Prop} (h : Q .next s) : wpG (model prog w) A (execs [] env) Q E s := wpG_pure h
theorem wpG_Return {e : Expr} {pos : Pos} {Q : Flow → Shared → Prop} (h : wpG (model prog w) A (eval e env) (fun v => Q (.ret v)) E s) : wpG (model prog w) A (exec (.Return (some e) pos) env) Q E s := by
  rw [exec_Return_some]
  exact wpG_first (wpAny_standAt (wpG_bind (wpG_mono h (fun v s' hv => wpG_pure hv) fun _ _ e => e)))
theorem wpG_If {test : Expr} {body orelse : List Stmt} {pos : Pos} {Q : Flow → Shared → Prop}
    (h : wpAny (model prog w) A (isTrue test env (eval test env)) (fun b s₂ => if b then wpG (model prog w) A (execs body env) Q E s₂ else wpG (model prog w) A (execs orelse env) Q E s₂) E s) :
    wpG (model prog w) A (exec (.If test body orelse pos) env) Q E s := by
  rw [exec_If]
  refine wpG_first (wpAny_standAt (wpG_first (wpAny_mono h (fun b s₂ h₂ => ?_) fun _ _ e => e)))
  cases b <;> exact h₂

theorem codeG_func {body : List Stmt} {R : Result → Shared → Prop} (h : wpG (model prog w) (A.deeper env) (execs body env) (fun f s' => R (.ok (.ret (match f with | .ret v => v | _ => .none))) s') (fun _ _ => False) s) :
    codeG (model prog w) A (.func body env) R s := by
  refine codeG_of_tree rfl ?_
  show wpG _ (A.deeper env) (do point; match ← (execs body env).onRaise (leaving env) with | .ret v => ret v | _ => ret .none) _ _ s
  refine wpG_first (wpAny_point (wpG_bind (wpG_onRaise (wpG_mono h (fun f s' h' => ?_) fun _ _ e => e.elim))))
  cases f <;> exact wpG_pure h'
theorem codeG_call_function {R : Result → Shared → Prop} {a : Addr} {args : Args} {o : Obj} {fd : FuncData} {body : List Stmt} (hroom : A.depth < recursionLimit) (ho : s.heap.get? a = some o)
    (hd : o.data = .func fd) (hco : fd.scope.isCoroutine = false) (hgen : fd.scope.isGenerator = false) (hbody : fd.body = .stmts body) (hcd : s.heap.CodeRec fd.code fd.qualname)
    (h : wpAny (model prog w) A.in1 (bindArgs fd args) (fun binds s₁ =>
      wpAny (model prog w) A.in1 (newFunctionEnv fd.scope fd.globals fd.closure binds (fd.qualname ++ ".<locals>.") (some a) fd.code none fd.builtins)
        (fun env s₂ => s₂.heap.NoLimit ∧ codeG (model prog w) A (.func body env) R s₂) (fun _ _ => False) s₁) (fun _ _ => False) s) :
    codeG (model prog w) A (.call (.ref a) args) R s := by
  refine codeG_of_tree rfl (wpG_of ?_)
  show wpAny _ A.in1 (callAny (.ref a) args) _ _ s
  obtain ⟨c, oc, vs, tq, hc, hoc, hdc, hq⟩ := hcd
  simp only [callAny]
  refine wpAny_bind (wpAny_load ho ?_)
  simp only [hd, callFunction, hco, hgen, hbody, hc]
  rw [hc] at h
  refine wpAny_bind (m := field (.ref c) 1) (wpAny_field hoc hdc hq (wpAny_bind (wpAny_pure ?_)))
  refine wpAny_bind (wpAny_mono h (fun binds s₁ h₁ => wpAny_bind (wpAny_mono h₁ (fun env s₂ h₂ => ?_) fun _ _ e => e.elim)) fun _ _ e => e.elim)
  exact wpAny_bind (wpAny_enterFrame h₂.1 hroom (wpAny_pure ⟨rfl, h₂.2⟩))

theorem wpG_runOwn {c : Code} {Q : Flow → Shared → Prop} (hc : codeG (model prog w) A c (fun r s' => match r with | .ok f => Q f s' | .error e => False) s) : wpG (model prog w) A (runOwn c env none) Q E s := by
  unfold runOwn
  exact wpG_onRaise (wpG_run (codeG_mono hc fun r s' h => by cases r <;> exact h))
theorem wpG_For {target iter : Expr} {body orelse : List Stmt} {pos : Pos} {Q : Flow → Shared → Prop}
    (h : wpAny (model prog w) A (eval iter env) (fun x s₁ => wpAny (model prog w) A (pyIter x) (fun it s₂ =>
      codeG (model prog w) A (.forLoop target it body orelse env) (fun r s' => match r with | .ok f => Q f s' | .error e => False) s₂) (fun _ _ => False) s₁) (fun _ _ => False) s)
    (hs : ∀ x, foldedSetIterable iter env x = pure x := by intro _; rfl) :
    wpG (model prog w) A (exec (.For target iter body orelse pos) env) Q E s := by
  rw [exec_For]
  refine wpG_first (wpAny_standAt (wpG_first (wpAny_mono h (fun x s₁ h₁ => ?_) fun _ _ e => e.elim)))
  refine wpG_bind (wpG_of_eq (hs x) (wpG_first (wpAny_standAt (wpG_bind (wpG_holding (wpG_of (wpAny_mono h₁ (fun it s₂ h₂ => wpG_runOwn h₂) fun _ _ e => e.elim)))))))
theorem codeG_forLoop {R : Result → Shared → Prop} {target : Expr} {it : Value} {body : List Stmt} (I : Nat → Shared → Prop)
    (turn : ∀ n s, I n s → wpAny (model prog w) A (pyNext it) (fun r s₁ => match r with
      | none => R (.ok .next) s₁
      | some v => wpAny (model prog w) A (assign target env v) (fun _ s₂ => wpG (model prog w) A (execs body env) (fun f s₃ => match f with
          | .next | .cont => ∃ m, m < n ∧ I m s₃
          | .brk => R (.ok .next) s₃
          | .ret v => R (.ok (.ret v)) s₃) (fun _ _ => False) s₂) (fun _ _ => False) s₁) (fun _ _ => False) s)
    (n : Nat) (h : I n s) (ht : ∀ v, letOwnedTupleGo target it v = pure () := by intro _; rfl) : codeG (model prog w) A (.forLoop target it body [] env) R s := by
  refine codeG_loop rfl rfl I (fun n s hI => ?_) n h
  show wpG _ _ ((forTurn target it body [] env).onRaise (fun x => do noteFrame x env; theTreesLotGoes x)) _ _ s
  refine wpG_onRaise ?_
  simp only [forTurn]
  refine wpG_first (wpAny_standAt (wpG_bind (wpG_onRaise (wpG_of (wpAny_mono (turn n s hI) (fun r s₁ h₁ => ?_) fun _ _ e => e)))))
  cases r with
  | none => exact wpG_pure (.inr ⟨rfl, codeG_of (codeAny_block (wpAny_execs_nil h₁))⟩)
  | some v =>
    refine wpG_bind (wpG_of_eq (ht v) ?_)
    refine wpG_first (wpAny_mono h₁ (fun _ s₂ h₂ => wpG_bind (wpG_mono h₂ (fun f s₃ h₃ => ?_) fun _ _ e => e)) fun _ _ e => e)
    cases f with
    | next => exact wpG_pure (.inl ⟨rfl, h₃⟩)
    | cont => exact wpG_pure (.inl ⟨rfl, h₃⟩)
    | brk => exact wpG_pure h₃
    | ret v => exact wpG_pure h₃
end
end
section

theorem fa_attrs : PlainAttrs "bytearray" :=
  ⟨⟨"bytearray.__getattribute__", by rw [typeLookup_type, builtinLookup_eq_fast]; kernel_rfl, by decide +kernel⟩, by rw [typeLookup_type, builtinLookup_eq_fast]; kernel_rfl⟩
theorem fa_owner : Manifest.owners.lookup (String.ofList ['y', 'a', 'r', 'r', 'a', 'e', 't', 'y', 'b'].reverse) = some Manifest.sig_bytearray := by kernel_rfl
theorem fa_slot_len : Slot "bytearray" "__len__" "bytearray.__len__" :=
  .of (owner := "bytearray") (n := "__len__") (by rw [typeLookup_type, builtinLookup_eq_fast]; kernel_rfl) (by decide +kernel) (by decide +kernel) (by decide +kernel) (by first | exact .inl (by decide +kernel) | exact .inr (by decide +kernel)) (by rw [isSubtype_type]; kernel_rfl)
theorem fa_entry_len : entryFor table "bytearray.__len__" = some Builtin.«bytearray.__len__» := entryFor_of_tree (by kernel_rfl)
theorem fa_args_len (a : Value) : argsOk "bytearray.__len__" ⟨[a], []⟩ := by
  unfold argsOk; rw [signature?_of (id := "bytearray.__len__") (n := ['_', '_', 'n', 'e', 'l', '_', '_']) (o := ['y', 'a', 'r', 'r', 'a', 'e', 't', 'y', 'b']) (by kernel_rfl) fa_owner]; kernel_rfl
theorem fa_slot_getitem : Slot "bytearray" "__getitem__" "bytearray.__getitem__" :=
  .of (owner := "bytearray") (n := "__getitem__") (by rw [typeLookup_type, builtinLookup_eq_fast]; kernel_rfl) (by decide +kernel) (by decide +kernel) (by decide +kernel) (by first | exact .inl (by decide +kernel) | exact .inr (by decide +kernel)) (by rw [isSubtype_type]; kernel_rfl)
theorem fa_entry_getitem : entryFor table "bytearray.__getitem__" = some Builtin.«bytearray.__getitem__» := entryFor_of_tree (by kernel_rfl)
theorem fa_args_getitem (a b : Value) : argsOk "bytearray.__getitem__" ⟨[a, b], []⟩ := by
  unfold argsOk; rw [signature?_of (id := "bytearray.__getitem__") (n := ['_', '_', 'm', 'e', 't', 'i', 't', 'e', 'g', '_', '_']) (o := ['y', 'a', 'r', 'r', 'a', 'e', 't', 'y', 'b']) (by kernel_rfl) fa_owner]; kernel_rfl
theorem fa_slot_append : Slot "bytearray" "append" "bytearray.append" :=
  .of (owner := "bytearray") (n := "append") (by rw [typeLookup_type, builtinLookup_eq_fast]; kernel_rfl) (by decide +kernel) (by decide +kernel) (by decide +kernel) (by first | exact .inl (by decide +kernel) | exact .inr (by decide +kernel)) (by rw [isSubtype_type]; kernel_rfl)
theorem fa_type_append : typeOf (.builtin "bytearray.append") = pure (.type "method_descriptor") := by show builtinType _ = _; rw [builtinType_eq_fast]; kernel_rfl
theorem fa_entry_append : entryFor table "bytearray.append" = some Builtin.«bytearray.append» := entryFor_of_tree (by kernel_rfl)
theorem fa_args_append (a b : Value) : argsOk "bytearray.append" ⟨[a, b], []⟩ := by
  unfold argsOk; rw [signature?_of (id := "bytearray.append") (n := ['d', 'n', 'e', 'p', 'p', 'a']) (o := ['y', 'a', 'r', 'r', 'a', 'e', 't', 'y', 'b']) (by kernel_rfl) fa_owner]; kernel_rfl
theorem fa_slot_init : Slot "bytearray" "__init__" "bytearray.__init__" :=
  .of (owner := "bytearray") (n := "__init__") (by rw [typeLookup_type, builtinLookup_eq_fast]; kernel_rfl) (by decide +kernel) (by decide +kernel) (by decide +kernel) (by first | exact .inl (by decide +kernel) | exact .inr (by decide +kernel)) (by rw [isSubtype_type]; kernel_rfl)
theorem fa_entry_init : entryFor table "bytearray.__init__" = some Builtin.«bytearray.__init__» := entryFor_of_tree (by kernel_rfl)
theorem fa_args_init (a : Value) : argsOk "bytearray.__init__" ⟨[a], []⟩ := by
  unfold argsOk; rw [signature?_of (id := "bytearray.__init__") (n := ['_', '_', 't', 'i', 'n', 'i', '_', '_']) (o := ['y', 'a', 'r', 'r', 'a', 'e', 't', 'y', 'b']) (by kernel_rfl) fa_owner]; kernel_rfl
theorem fa_mro : mroOf (.type "bytearray") = pure [.type "bytearray", .type "object"] := by rw [mroOf_type]; kernel_rfl
theorem fa_lookup_new : typeLookup (.type "bytearray") "__new__" = pure (some (.builtin "bytearray.__new__")) := by rw [typeLookup_type, builtinLookup_eq_fast]; kernel_rfl
theorem fa_called : TypeCalled "bytearray" "bytearray.__new__" "bytearray.__init__" :=
  ⟨by decide +kernel, by decide +kernel, ⟨_, _, fa_mro⟩, madeBy_type fa_mro fa_lookup_new (by decide +kernel), by decide +kernel, by rw [isSubtype_type]; kernel_rfl, fa_slot_init⟩
theorem fa_typeCall : checkTypeCall "bytearray" ⟨[], []⟩ = pure () := by kernel_rfl
theorem fa_newCall : checkBuiltinCall "bytearray.__new__" ⟨[.type "bytearray"], []⟩ = pure () := by kernel_rfl
theorem fa_entry_new : entryFor table "bytearray.__new__" = some Builtin.«list.__new__» := entryFor_alias (id' := "list.__new__") (by kernel_rfl) (by first | rfl | decide +kernel) (by decide +kernel) (by kernel_rfl)
theorem fa_sub : isSubtype (.type "bytearray") (.type "bytearray") = pure true := by rw [isSubtype_type]; kernel_rfl
theorem fa_release : typeLookup (.type "bytearray") "__release_buffer__" = pure (some (.builtin "bytearray.__release_buffer__")) := by rw [typeLookup_type, builtinLookup_eq_fast]; kernel_rfl
theorem fa_buffer : typeLookup (.type "bytearray") "__buffer__" = pure (some (.builtin "bytearray.__buffer__")) := by rw [typeLookup_type, builtinLookup_eq_fast]; kernel_rfl
theorem fa_no_bytes : typeLookup (.type "bytearray") "__bytes__" = pure none := by rw [typeLookup_type, builtinLookup_eq_fast]; kernel_rfl
theorem fa_no_index : typeLookup (.type "bytearray") "__index__" = pure none := by rw [typeLookup_type, builtinLookup_eq_fast]; kernel_rfl
set_option maxRecDepth 1000000 in
theorem fa_owner_new : ("bytearray.__new__".splitOn ".__new__").headD "" = "bytearray" := by simp +decide [String.splitOn, String.splitOnAux]

abbrev baObj (b : List UInt8) : Obj := { cls := .type "bytearray", data := .bytearray b.toArray }

section
variable {prog : Program} {w : World} {A : Around} {E : Value → Shared → Prop} {s : Shared} {a : Addr} {b : List UInt8}
theorem ba_type (ho : s.heap.get? a = some (baObj b)) : s.TypeIs (.ref a) "bytearray" := ⟨_, ho, rfl⟩
theorem ba_len {Q : Value → Shared → Prop} (ho : s.heap.get? a = some (baObj b)) (hz : b.length ≤ 1000000) (h : ∀ t k, Q (.int b.length t) { s with toks := k }) : wpAny (model prog w) A (call (.builtin "len") [.ref a]) Q E s := by
  have hT := ba_type ho
  refine Calls.call_function_entry kind_len plain_len entry_len (args_len1 _) ?_
  unfold Builtin.«len»
  refine wpAny_bind (m := oneArg "len" _) (wpAny_pure ?_)
  refine wpAny_bind (m := callSpecial? (.ref a) (Str.ofString "__len__")) (wpAny_callSpecial?_slot (name := Str.ofString "__len__") hT fa_slot_len (wpAny_call_entry fa_slot_len hT fa_entry_len ?_ (fa_args_len _)))
  unfold Builtin.«bytearray.__len__»
  refine wpAny_bind (m := slotArgs "__len__" 0 _) (wpAny_pure ?_)
  refine wpAny_bind (m := Builtin.Bytes.payload (.ref a)) ?_
  unfold Builtin.Bytes.payload
  refine wpAny_bind (m := Builtin.Bytes.payload? (.ref a)) ?_
  unfold Builtin.Bytes.payload?
  refine wpAny_bind (wpAny_load ho (wpAny_pure (wpAny_pure ?_)))
  refine wpAny_bind (wpAny_mkInt (wpAny_pure ⟨_, rfl, ?_⟩))
  show wpAny _ _ _ _ _ { s with toks := s.toks + 1 }
  refine wpAny_bind (wpAny_holding (wpAny_pure ?_))
  refine wpAny_bind (wpAny_letGo ?_)
  show wpAny _ _ (if ((b.toArray.size : Nat) : Int) < 0 then _ else _) _ _ _
  rw [if_neg (by omega)]
  show wpAny _ _ (if ((b.toArray.size : Nat) : Int) ≥ 2 ^ 63 then _ else _) _ _ _
  rw [if_neg (by rw [List.size_toArray]; omega)]
  refine wpAny_bind (wpAny_mkInt (wpAny_pure ⟨_, rfl, ?_⟩))
  show Q (.int ((b.toArray.size : Nat) : Int) _) _
  rw [List.size_toArray]
  exact h _ _
theorem ba_getitem {Q : Value → Shared → Prop} {i : Int} {t : Tok} (ho : s.heap.get? a = some (baObj b)) (h0 : 0 ≤ i) (h1 : i < b.length) (hz : b.length ≤ 1000000)
    (h : ∀ t k, Q (.int (byteI b i) t) { s with toks := k }) : wpAny (model prog w) A (getItem (.ref a) (.int i t)) Q E s := by
  have hT := ba_type ho
  refine wpAny_getItem_slot hT (by decide +kernel) fa_slot_getitem (wpAny_call_entry fa_slot_getitem hT fa_entry_getitem ?_ (fa_args_getitem _ _))
  unfold Builtin.«bytearray.__getitem__»
  refine wpAny_bind (m := slotArgs "__getitem__" 1 _) (wpAny_pure ?_)
  show wpAny _ _ (Builtin.Bytes.subscript? (.int i t) >>= fun r => _) _ _ _
  refine wpAny_bind ?_
  unfold Builtin.Bytes.subscript?
  refine wpAny_bind (wpAny_specialOf (typeIs_int s i t) F.slot_int_index.lookup ?_)
  show wpAny _ _ (if (!Builtin.Bytes.fitsIndex i) = true then _ else pure (some i)) _ _ s
  have hr : Builtin.Bytes.fitsIndex i = true := by
    simp only [Builtin.Bytes.fitsIndex, Bool.and_eq_true, decide_eq_true_eq]; omega
  rw [hr]
  refine wpAny_pure ?_
  show wpAny _ _ (Builtin.Bytes.payload (.ref a) >>= fun b => _) _ _ s
  refine wpAny_bind ?_
  unfold Builtin.Bytes.payload Builtin.Bytes.payload?
  refine wpAny_bind (wpAny_bind (wpAny_load ho (wpAny_pure (wpAny_pure ?_))))
  have hl : i.toNat < b.length := by omega
  have hs : seqIndex? i b.toArray.size = some i.toNat := by
    have hn : ¬ i < 0 := by omega
    simp [seqIndex?, hn, h0, h1]
  show wpAny _ _ (match (seqIndex? i b.toArray.size).bind (b.toArray[·]?) with | some x => retInt x.toNat | none => _) _ _ s
  rw [hs]
  have hg : (some i.toNat).bind (b.toArray[·]?) = some (b.getD i.toNat 0) := by
    simp [List.getElem?_eq_getElem hl, List.getD]
  rw [hg]
  exact wpAny_bind (wpAny_mkInt (wpAny_pure ⟨_, rfl, h _ _⟩))

/-- a call of a builtin, over the clean stacks -/
theorem codeG_builtin {R : Result → Shared → Prop} {id : String} {args : Args} {b : Builtin} (hdc : isDec (.builtin id args) = false) (hb : entryFor table id = some b)
    (h : wpG (model prog w) (A.under (.builtin id args)) (b args) (fun fin s' => match fin with | .done f => R (.ok f) s' | .again c' => c'.quiet = true ∧ codeG (model prog w) A c' R s') (fun e s' => R (.error e) s') s) :
    codeG (model prog w) A (.builtin id args) R s := by
  refine codeG_of_tree hdc ?_
  show wpG _ _ (match entryFor table id with | some b => b args | none => unsupported ((withoutEnding? id "#data").getD id)) _ _ s
  rw [hb]; exact h
theorem codeG_call_builtin {R : Result → Shared → Prop} {id : String} {args : Args} {b : Builtin} (hq : plainId id = true) (hdc : isDec (.builtin id args) = false) (hb : entryFor table id = some b)
    (h : wpAny (model prog w) A.in1 (checkBuiltinCall id args) (fun _ s₁ => wpG (model prog w) A.in1 (b args)
      (fun fin s' => match fin with | .done f => R (.ok f) s' | .again c' => c'.quiet = true ∧ codeG (model prog w) A c' R s') (fun e s' => R (.error e) s') s₁)
      (fun e s' => R (.error e) s') s) : codeG (model prog w) A (.call (.builtin id) args) R s := by
  refine codeG_of_tree rfl ?_
  show wpG _ A.in1 (do checkBuiltinCall id args; again (.builtin id args)) _ _ s
  refine wpG_first (wpAny_mono h (fun _ s₁ h₁ => wpG_pure ⟨plainId_quiet hq args, codeG_builtin hdc hb ?_⟩) fun _ _ h' => h')
  rw [Around.under_plainId hq args]; exact h₁
theorem wpG_call_entry {T : String} {name : Str} {id : String} {bi : Builtin} {self : Value} {rest : List Value} {Q : Value → Shared → Prop} (h : Slot T name id) (hT : s.TypeIs self T) (hdc : isDec (.builtin id ⟨self :: rest, []⟩) = false)
    (hb : entryFor table id = some bi)
    (hc : wpG (model prog w) A.in1 (bi ⟨self :: rest, []⟩) (fun fin s' => ∃ v, fin = .done (.ret v) ∧ Q v s') E s)
    (ha : argsOk id ⟨self :: rest, []⟩) :
    wpG (model prog w) A (call (.builtin id) (self :: rest)) Q E s := by
  refine wpG_call (codeG_call_builtin h.plain hdc hb (h.check _ _ _ _ _ _ _ _ hT ha (wpG_mono hc (fun fin s' h' => ?_) fun _ _ h' => h')))
  obtain ⟨v, rfl, hv⟩ := h'; exact hv
theorem gIf_false {α : Type} {M : Model} {c : Bool} {x y : Sem α} {Q : α → Shared → Prop} (hc : c = false) (h : wpG M A y Q E s) : wpG M A (if c = true then x else y) Q E s := by subst hc; exact h
theorem gIf_true {α : Type} {M : Model} {c : Bool} {x y : Sem α} {Q : α → Shared → Prop} (hc : c = true) (h : wpG M A x Q E s) : wpG M A (if c = true then x else y) Q E s := by subst hc; exact h

/-- nothing is lent -/
theorem g_not_lent {Q : Bool → Shared → Prop} (hg : A.guards = some []) (ho : s.heap.get? a = some (baObj b)) (h : Q false s) :
    wpG (model prog w) A (Builtin.Bytes.exported (.ref a) <||> (do return (← Builtin.Bytes.exportsOf (.ref a)) > 0)) Q E s := by
  refine wpG_bind (wpG_exported hg ?_)
  show wpG _ _ (Builtin.Bytes.exportsOf (.ref a) >>= _) _ _ _
  refine wpG_first ?_
  unfold Builtin.Bytes.exportsOf
  exact wpAny_bind (wpAny_load ho (wpAny_pure (wpG_pure h)))
theorem w_write {f : Array UInt8 → Array UInt8} {Q : Unit → Shared → Prop} (ho : s.heap.get? a = some (baObj b)) (hz : (f b.toArray).size ≤ 1000000) (h : Q () { s with heap := s.heap.update a (Obj.mapBytearray f) }) :
    wpAny (model prog w) A (Builtin.Bytes.write (.ref a) f) Q E s := by
  show wpAny _ _ (updateBytearray a f) _ _ _
  unfold updateBytearray
  refine wpAny_bind (wpAny_load ho ?_)
  show wpAny _ _ (update a (Obj.mapBytearray f) >>= fun _ => lookBehind a) _ _ _
  refine wpAny_bind (wpAny_update ho ?_)
  have hS₂ : (s.heap.update a (Obj.mapBytearray f)).get? a = some (Obj.mapBytearray f (baObj b)) := Heap.get?_update_self (Obj.mapBytearray f) ho rfl
  refine wpAny_lookBehind hS₂ ?_ h
  show (if (f b.toArray).size > sizeLine then some "bytearray:memory" else none) = none
  rw [if_neg]
  have : (1000000 : Nat) ≤ sizeLine := by decide
  omega

/-- out.append(x), over the clean stacks -/
theorem g_append {Q : Value → Shared → Prop} {i : Int} {t : Tok} (hg : A.guards = some []) (ho : s.heap.get? a = some (baObj b)) (h0 : 0 ≤ i) (h1 : i < 256) (hz : b.length + 1 ≤ 1000000)
    (h : Q .none { s with heap := s.heap.update a (Obj.mapBytearray (·.push i.toNat.toUInt8)) }) : wpG (model prog w) A (call (.builtin "bytearray.append") [.ref a, .int i t]) Q E s := by
  have hT := ba_type ho
  refine wpG_call_entry fa_slot_append hT (by rfl) fa_entry_append ?_ (fa_args_append _ _)
  unfold Builtin.«bytearray.append»
  refine wpG_first (m := selfAndOne "bytearray.append" _) (wpAny_pure ?_)
  show wpG _ _ (Builtin.Bytes.byteValue (.int i t) >>= fun c => Builtin.Bytes.checkResize (.ref a) >>= fun _ => Builtin.Bytes.write (.ref a) (fun x => x.push c) >>= fun _ => ret Value.none) _ _ _
  refine wpG_first ?_
  unfold Builtin.Bytes.byteValue
  refine wpAny_bind (wpAny_of_eq (rfl : asIndex (.int i t) = pure i) ?_)
  refine bm_if_false (by simp only [Bool.or_eq_false_iff, decide_eq_false_iff_not]; omega) (wpAny_pure ?_)
  refine wpG_bind ?_
  unfold Builtin.Bytes.checkResize
  refine wpG_bind (g_not_lent hg ho ?_)
  refine gIf_false rfl (wpG_pure ?_)
  refine wpG_first (w_write ho ?_ (wpG_pure ⟨_, rfl, h⟩))
  simp only [Array.size_push, List.size_toArray]; omega

/-- the new object, over the clean stacks: bytearray() -/
theorem code_ba_new {Q₁ : Value → Shared → Prop}
    (h : Q₁ (.ref s.heap.objs.size) { s with heap := s.heap.push (baObj []) }) :
    codeAny (model prog w) A (.call (.builtin "bytearray.__new__") ⟨[.type "bytearray"], []⟩) (wants Q₁ E) s := by
  refine codeAny_of_tree ?_
  show wpAny _ A.in1 (do checkBuiltinCall "bytearray.__new__" ⟨[.type "bytearray"], []⟩; again (.builtin "bytearray.__new__" ⟨[.type "bytearray"], []⟩)) _ _ s
  have hpl : plainId "bytearray.__new__" = true := by decide +kernel
  refine wpAny_bind (wpAny_of_eq fa_newCall (wpAny_pure ⟨plainId_quiet hpl _, codeAny_builtin_stack fa_entry_new rfl fun p st => ?_⟩))
  rw [Around.under_plainId hpl _]
  have hsub := fa_sub
  have hown := fa_owner_new
  obtain ⟨hp, g, d, tk, os⟩ := s
  simp only [hown]
  wp_walk
  exact h
theorem fa_ends : ("bytearray.__release_buffer__".endsWith ("." ++ "__release_buffer__")) = true := by decide +kernel
theorem fa_drop : ("bytearray.__release_buffer__".dropRight ("__release_buffer__".length + 1)) = "bytearray" := by decide +kernel
theorem fa_ends2 : ("bytearray.__buffer__".endsWith ("." ++ "__buffer__")) = true := by decide +kernel
theorem fa_drop2 : ("bytearray.__buffer__".dropRight ("__buffer__".length + 1)) = "bytearray" := by decide +kernel
theorem w_ownRelease {Q : Bool → Shared → Prop} (ho : s.heap.get? a = some (baObj b)) (h : Q false s) : wpAny (model prog w) A (Builtin.Bytes.ownRelease (.ref a)) Q E s := by
  have hT := ba_type ho
  unfold Builtin.Bytes.ownRelease Builtin.Bytes.slotIsOwn
  refine wpAny_bind (wpAny_bind (wpAny_specialOf hT fa_release ?_))
  show wpAny _ _ (if (!"bytearray.__release_buffer__".endsWith ("." ++ "__release_buffer__")) = true then pure false else isInstance (.ref a) (.type ("bytearray.__release_buffer__".dropRight ("__release_buffer__".length + 1)))) _ _ _
  rw [fa_ends, fa_drop]
  refine bm_if_false rfl ?_
  exact wpAny_isInstance hT fa_sub (wpAny_pure h)
theorem w_slotOwn {Q : Bool → Shared → Prop} (ho : s.heap.get? a = some (baObj b)) (h : Q true s) : wpAny (model prog w) A (Builtin.Bytes.slotIsOwn (.ref a) "__buffer__") Q E s := by
  have hT := ba_type ho
  unfold Builtin.Bytes.slotIsOwn
  refine wpAny_bind (wpAny_specialOf hT fa_buffer ?_)
  show wpAny _ _ (if (!"bytearray.__buffer__".endsWith ("." ++ "__buffer__")) = true then pure false else isInstance (.ref a) (.type ("bytearray.__buffer__".dropRight ("__buffer__".length + 1)))) _ _ _
  rw [fa_ends2, fa_drop2]
  refine bm_if_false rfl ?_
  exact wpAny_isInstance hT fa_sub h
theorem g_init {Q : Value → Shared → Prop} (hg : A.guards = some []) (ho : s.heap.get? a = some (baObj []))
    (h : Q .none { s with heap := s.heap.update a (Obj.mapBytearray fun _ => #[]) }) : wpG (model prog w) A (call (.builtin "bytearray.__init__") [.ref a]) Q E s := by
  have hT := ba_type ho
  refine wpG_call_entry fa_slot_init hT (by rfl) fa_entry_init ?_ (fa_args_init _)
  unfold Builtin.«bytearray.__init__»
  refine wpG_first (m := Builtin.Bytes.ownRelease (.ref a)) (w_ownRelease ho ?_)
  refine gIf_false rfl ?_
  have hb : Builtin.Bytes.bindOptional "bytearray.__init__" "bytearray" ["source", "encoding", "errors"] [] [] = pure [none, none, none] := by kernel_rfl
  refine wpG_first (wpAny_of_eq hb ?_)
  refine wpG_first (wpAny_of_eq (a := ()) rfl ?_)
  refine wpG_first (wpAny_of_eq (a := ()) rfl ?_)
  refine wpG_bind (g_not_lent hg ho ?_)
  refine gIf_false rfl ?_
  refine wpG_first (w_write ho (Nat.zero_le _) ?_)
  exact wpG_pure ⟨_, rfl, h⟩
theorem wpG_callSpecial?_slot {M : Model} {self : Value} {T : String} {name : Str} {id : String} {args : List Value} {kw : List (Str × Value)}
    {Q : Option Value → Shared → Prop} (hT : s.TypeIs self T) (h : Slot T name id)
    (hc : wpG M A (call (.builtin id) (self :: args) kw) (fun v => Q (some v)) E s) : wpG M A (callSpecial? self name args kw) Q E s := by
  simp only [callSpecial?]
  refine wpG_first (wpAny_specialOf hT h.lookup ?_)
  simp only [h.bind]
  exact wpG_holding (wpG_bind (wpG_pure (wpG_bind (wpG_mono hc (fun v s' h' => wpG_pure h') fun _ _ h' => h'))))

/-- bytearray(), over the clean stacks -/
theorem g_make {Q : Value → Shared → Prop} (hg : A.guards = some []) (h : Q (.ref s.heap.objs.size) { s with heap := (s.heap.push (baObj [])).update s.heap.objs.size (Obj.mapBytearray fun _ => #[]) }) :
    wpG (model prog w) A (call (.type "bytearray") []) Q E s := by
  have ft := fa_called
  obtain ⟨c, tl, hmro⟩ := ft.mro
  have hmade := ft.made
  have hsub := ft.sub
  have hct := fa_typeCall
  refine wpG_call (codeG_of_tree rfl ?_)
  show wpG _ _ (callAny (.type "bytearray") _) _ _ _
  refine wpG_pure ⟨Code.quiet_builtin _ (by decide +kernel), codeG_builtin (by rfl) F.entry_type_call ?_⟩
  rw [Around.under_plain (weight_type_call_type "bytearray" [] []) rfl]
  have h1 := ft.notType
  have h2 := ft.canCreate
  unfold Builtin.«type.__call__»
  refine gIf_false h1 ?_
  refine gIf_false h2 ?_
  refine wpG_first (wpAny_of_eq hct ?_)
  refine wpG_first (wpAny_of_eq hmro ?_)
  refine gIf_false rfl ?_
  refine wpG_first (wpAny_of_eq hmade ?_)
  refine wpG_first (m := (pure (Value.builtin "bytearray.__new__") : Sem Value)) (wpAny_pure ?_)
  refine wpG_first (wpAny_holding (wpAny_call (codeAny_mono (code_ba_new (E := E) (Q₁ := fun v s' => v = .ref s.heap.objs.size ∧ s' = { s with heap := s.heap.push (baObj []) }) ⟨rfl, rfl⟩) fun r s' hr => ?_)))
  cases r with
  | error e => exact hr
  | ok f =>
    cases f with
    | ret v =>
      obtain ⟨rfl, rfl⟩ := hr
      have ho : (s.heap.push (baObj [])).get? s.heap.objs.size = some (baObj []) := Heap.get?_push_size _ rfl
      have hT : ({ s with heap := s.heap.push (baObj []) } : Shared).TypeIs (.ref s.heap.objs.size) "bytearray" := ba_type (s := { s with heap := s.heap.push (baObj []) }) ho
      refine wpG_first (wpAny_isInstance hT fa_sub ?_)
      refine gIf_false rfl ?_
      refine wpG_bind (wpG_holding (wpG_callSpecial?_slot hT ft.init (g_init (s := { s with heap := s.heap.push (baObj []) }) hg ho ?_)))
      exact gIf_false rfl (wpG_pure h)
    | _ => exact hr.elim
end

section
variable {prog : Program} {w : World} {A : Around} {E : Value → Shared → Prop} {s : Shared} {a : Addr} {b : List UInt8}
/-- bytes(out) -/
theorem ba_bytes {Q : Value → Shared → Prop} (ho : s.heap.get? a = some (baObj b)) (hz : b.length ≤ 1000000)
    (hQ : ∀ t k, Q (.bytes b.toArray t) { s with toks := k }) : wpAny (model prog w) A (call (.type "bytes") [.ref a]) Q E s := by
  refine callType_codes (Q₁ := fun obj s₁ => s₁.TypeIs obj "bytes" ∧ Q obj s₁) F.bm_called (F.bm_typeCall _) F.entry_object_init ?_ fun obj s₁ h₁ => ?_
  · refine codeAny_of_tree ?_
    show wpAny _ A.in1.in1 (do checkBuiltinCall "bytes.__new__" ⟨[.type "bytes", .ref a], []⟩; again (.builtin "bytes.__new__" ⟨[.type "bytes", .ref a], []⟩)) _ _ s
    refine wpAny_bind (wpAny_of_eq (F.bm_newCall _) (wpAny_pure ⟨plainId_quiet F.bm_plain _, codeAny_builtin F.bm_entry ?_⟩))
    rw [Around.under_plainId F.bm_plain _]
    have hT := ba_type ho
    unfold Builtin.«bytes.__new__»
    refine wpAny_bind (wpAny_of_eq (a := true) rfl ?_)
    refine bm_if_false rfl ?_
    refine wpAny_bind (wpAny_of_eq F.bm_sub ?_)
    refine bm_if_false rfl ?_
    refine wpAny_bind (wpAny_of_eq (F.bm_bind _) ?_)
    refine wpAny_bind (wpAny_of_eq (a := ()) rfl ?_)
    refine wpAny_bind (wpAny_of_eq (a := ()) rfl ?_)
    refine bm_if_false rfl ?_
    refine wpAny_bind (wpAny_specialOf hT fa_no_bytes ?_)
    refine wpAny_bind (wpAny_bind ?_)
    show wpAny _ _ (load a >>= _) _ _ _
    refine wpAny_bind (wpAny_load ho ?_)
    refine wpAny_pure (wpAny_pure ?_)
    refine bm_if_false rfl ?_
    refine wpAny_bind (wpAny_specialOf hT fa_no_index ?_)
    refine bm_if_true rfl ?_
    first
      | show wpAny _ _ (Builtin.Bytes.buffer? "bytes.__new__" (.ref a) true >>= _) _ _ _
      | (refine wpAny_bind ?_; show wpAny _ _ (Builtin.Bytes.buffer? "bytes.__new__" (.ref a) true >>= _) _ _ _)
    refine wpAny_bind ?_
    unfold Builtin.Bytes.buffer?
    refine wpAny_bind (wpAny_specialOf hT fa_buffer ?_)
    refine wpAny_bind (w_slotOwn ho ?_)
    refine bm_if_false rfl ?_
    refine wpAny_bind (wpAny_specialOf hT fa_buffer ?_)
    refine wpAny_bind (w_ownRelease ho ?_)
    refine bm_if_false rfl ?_
    unfold Builtin.Bytes.payload Builtin.Bytes.payload?
    refine wpAny_bind (wpAny_bind (wpAny_bind (wpAny_load ho (wpAny_pure (wpAny_pure ?_)))))
    refine wpAny_pure (wpAny_bind (wpAny_rule ?_))
    refine wpAny_bind (wpAny_mkBytes ?_ (by rw [List.size_toArray]; exact Nat.le_trans hz (by decide)))
    show wpAny _ _ (if (Value.type "bytes" == Value.type "bytes") = true then _ else _) _ _ _
    refine bm_if_true (by decide) ?_
    exact wpAny_pure ⟨PySem.W.typeIs_bytes _ _ _, hQ _ _⟩
  · exact ⟨h₁.1, F.args_object_init_2 obj _, object_init_meets F.bm_called.init.lookup F.bm_called.made (by decide) prog w A.in1 _ s₁ ⟨h₁.1, rfl, h₁.2⟩⟩
end
end
section
section
variable {M : Model} {A : Around} {E : Value → Shared → Prop} {s : Shared} {env : Env}
theorem wpG_keep {α : Type} {vs : List Value} {m : Sem α} {Q : α → Shared → Prop} (h : wpG M A m Q E s) : wpG M A (m.keep vs) Q E s :=
  fun Γ p hΓ hc => by rw [Sem.wp_keep]; exact h Γ p hΓ hc
theorem wpG_operate {vs : List Value} {m : Sem Value} {Q : Value → Shared → Prop} (h : wpG M A m Q E s) : wpG M A (operate vs m) Q E s :=
  fun Γ p hΓ hc => by rw [Sem.wp_operate]; exact h Γ p hΓ hc
theorem wpG_ite {c : Prop} [Decidable c] {α : Type} {x y : Sem α} {Q : α → Shared → Prop} (h1 : c → wpG M A x Q E s) (h2 : ¬ c → wpG M A y Q E s) : wpG M A (if c then x else y) Q E s := by
  split
  · exact h1 ‹_›
  · exact h2 ‹_›
theorem callG_tail {t : Sem Value} {Q : Value → Shared → Prop} (ht : wpG M A t Q E s) : wpG M A (t >>= fun r => holding [r] point >>= fun _ => pure r) Q E s :=
  wpG_bind (wpG_mono ht (fun r s₂ hr => wpG_of (wpAny_bind (wpAny_holding (wpAny_point (wpAny_pure hr))))) fun _ _ x => x)
theorem callWithG_builtin {pos : Pos} {id : String} {first : List Value} {args : List (Bool × Sem Value)} {Q : Value → Shared → Prop} (hplain : args.any (·.1) = false)
    (h : wpAny M A (evalArgs (.builtin id) true args []) (fun a s₁ => wpG M A (call (.builtin id) (first ++ a.pos) a.kw) Q E s₁) E s) :
    wpG M A (callWith pos (.builtin id) first args []) Q E s := by
  unfold callWith
  refine wpG_first (wpAny_holding (wpAny_mono h (fun a s₁ h₁ => wpG_first (wpAny_standAt ?_)) fun _ _ x => x))
  simp only [hplain, List.any_nil, Bool.or_false]
  refine wpG_first (wpAny_pure ?_)
  exact callG_tail h₁
theorem callWithG_type {pos : Pos} {T : String} {first : List Value} {args : List (Bool × Sem Value)} {Q : Value → Shared → Prop} (hplain : args.any (·.1) = false)
    (h : wpAny M A (evalArgs (.type T) true args []) (fun a s₁ => wpG M A (call (.type T) (first ++ a.pos) a.kw) Q E s₁) E s) :
    wpG M A (callWith pos (.type T) first args []) Q E s := by
  unfold callWith
  refine wpG_first (wpAny_holding (wpAny_mono h (fun a s₁ h₁ => wpG_first (wpAny_standAt ?_)) fun _ _ x => x))
  simp only [hplain, List.any_nil, Bool.or_false]
  refine wpG_first (wpAny_pure ?_)
  exact callG_tail h₁
theorem callWithG_function {pos : Pos} {a : Addr} {o : Obj} {fd : FuncData} {first : List Value} {args : List (Bool × Sem Value)} {Q : Value → Shared → Prop}
    (h : wpAny M A (evalArgs (.ref a) true args []) (fun x s₁ => (s₁.heap.get? a = some o ∧ o.data = .func fd) ∧ wpG M A (call (.ref a) (first ++ x.pos) x.kw) Q E s₁) E s) :
    wpG M A (callWith pos (.ref a) first args []) Q E s := by
  unfold callWith
  refine wpG_first (wpAny_holding (wpAny_mono h (fun x s₁ h₁ => wpG_first (wpAny_standAt ?_)) fun _ _ x => x))
  cases hs : args.any (·.1) <;> simp only [List.any_nil, Bool.or_false] <;>
    refine wpG_first (m := keeperOf (.ref a)) ?_ <;> unfold keeperOf <;>
    refine wpAny_bind (wpAny_load h₁.1.1 ?_) <;> rw [h₁.1.2] <;> refine wpAny_pure ?_
  · refine wpG_ite (fun _ => ?_) fun _ => ?_
    · exact callG_tail h₁.2
    · exact callG_tail (t := callMarked plainCall _ _ _) (by unfold callMarked; exact wpG_keep h₁.2)
  · exact callG_tail (t := callMarked starredCall _ _ _) (by unfold callMarked; exact wpG_keep h₁.2)
theorem CallG_ {func : Expr} {args : List Expr} {pos : Pos} {Q : Value → Shared → Prop}
    (h : wpAny M A (eval func env) (fun f s₁ => wpG M A (callWith pos f [] (backTo pos (starEach args env)) []) Q E s₁) E s)
    (he : eval (.Call func args [] pos) env = (do callWith pos (← eval func env) [] (backTo pos (starEach args env)) (backToKw pos (keywordEach [] env))) := by rfl) :
    wpG M A (eval (.Call func args [] pos) env) Q E s := by
  rw [he]; exact wpG_first h
theorem callWithG_builtin1 {pos : Pos} {id : String} {first : List Value} {e : Expr} {rest : List Expr} {Q : Value → Shared → Prop}
    (h : wpAny M A (spliced (backTo pos (starEach (e :: rest) env))) (fun vs s₁ => wpG M A (call (.builtin id) (first ++ vs)) Q E s₁) E s)
    (he : starEach (e :: rest) env = (false, eval e env) :: starEach rest env := by rfl)
    (hplain : (backTo pos (starEach rest env)).any (·.1) = false := by rfl) :
    wpG M A (callWith pos (.builtin id) first (backTo pos (starEach (e :: rest) env)) []) Q E s := by
  rw [he] at h ⊢
  exact callWithG_builtin (by show (false || (backTo pos (starEach rest env)).any (·.1)) = false; rw [hplain]; rfl) (evalArgs_plain h)
theorem callWithG_type0 {pos : Pos} {T : String} {Q : Value → Shared → Prop} (h : wpG M A (call (.type T) []) Q E s) :
    wpG M A (callWith pos (.type T) [] (backTo pos (starEach [] env)) []) Q E s := callWithG_type rfl (evalArgs_nil3 h)
theorem callWithG_def {pos : Pos} {f : Addr} {o : Obj} {fd : FuncData} {e : Expr} {rest : List Expr} {Q : Value → Shared → Prop} (hdat : o.data = .func fd)
    (h : wpAny M A (spliced (backTo pos (starEach (e :: rest) env))) (fun vs s₁ => s₁.heap.get? f = some o ∧ wpG M A (call (.ref f) vs) Q E s₁) E s)
    (he : starEach (e :: rest) env = (false, eval e env) :: starEach rest env := by rfl) :
    wpG M A (callWith pos (.ref f) [] (backTo pos (starEach (e :: rest) env)) []) Q E s := by
  rw [he] at h ⊢
  exact callWithG_function (o := o) (fd := fd) (evalArgs_plain (wpAny_mono h (fun vs s₁ h₁ => ⟨⟨h₁.1, hdat⟩, h₁.2⟩) fun _ _ x => x))
theorem wpG_Expr {e : Expr} {pos : Pos} {Q : Flow → Shared → Prop} (h : wpG M A (eval e env) (fun v s' => match v with | .ref _ => False | _ => Q .next s') E s)
    (hi : interactive env = false := by rfl) (hs : swapsWith e none pos.line env = pure false := by rfl) :
    wpG M A (exec (.Expr e pos) env) Q E s := by
  rw [exec_Expr env e pos hi hs]
  refine wpG_first (wpAny_standAt (wpG_bind (wpG_mono h (fun v s' h' => ?_) fun _ _ x => x)))
  have hv : ∀ a, v ≠ .ref a := fun a hva => by subst hva; exact h'
  rw [dropValue_plain hv]
  refine wpG_pure ?_
  cases v <;> first | exact h' | exact (hv _ rfl).elim
theorem wpG_Assign_Name {x : Str} {pos' : Pos} {value : Expr} {pos : Pos} {Q : Flow → Shared → Prop}
    (h : wpG M A (eval value env) (fun v s₁ => wpAny M A (storeName env x v) (fun _ => Q .next) E s₁) E s)
    (hs : swapsWith value (some (.Name x pos')) pos.line env = pure false := by rfl) :
    wpG M A (exec (.Assign [.Name x pos'] value pos) env) Q E s := by
  rw [exec_Assign_Name env x pos' value pos hs]
  refine wpG_first (wpAny_standAt (wpG_bind (wpG_mono h (fun v s₁ h₁ => ?_) fun _ _ e => e)))
  exact wpG_of (wpAny_bind (wpAny_standAt (wpAny_bind (wpAny_bindName (wpAny_mono h₁ (fun _ _ h₂ => wpAny_pure h₂) fun _ _ e => e)))))
theorem wpG_Compare1 {l : Expr} {op : CmpOp} {r : Expr} {pos : Pos} {Q : Value → Shared → Prop}
    (h : wpG M A (eval l env) (fun a s₁ => wpAny M A (eval r env) (fun b s₂ => wpAny M A (compareOp op a b) Q E s₂) E s₁) E s)
    (hm : behindInMarks op r = false := by with_unfolding_all rfl) :
    wpG M A (eval (.Compare l [op] [r] pos) env) Q E s := by
  rw [eval_Compare1, markedBehindIn_of_false hm]
  refine wpG_bind (wpG_mono h (fun a s₁ h₁ => ?_) fun _ _ e => e)
  refine wpG_of (wpAny_bind (wpAny_holding (wpAny_mono h₁ (fun b s₂ h₂ => ?_) fun _ _ e => e)))
  exact wpAny_bind (wpAny_standAt (fun Γ p hΓ => by rw [Sem.wp_operate]; exact h₂ Γ p hΓ))
theorem wpG_And3 {x y z : Expr} {pos : Pos} {Q : Value → Shared → Prop}
    (h : wpAny M A (eval x env) (fun v s₁ => wpAny M A (truthy v) (fun t s₂ => if t then
      wpG M A (eval y env) (fun v s₃ => wpAny M A (truthy v) (fun t s₄ => if t then wpAny M A (eval z env) Q E s₄ else Q v s₄) E s₃) E s₂ else Q v s₂) E s₁) E s) :
    wpG M A (eval (.BoolOp .And [x, y, z] pos) env) Q E s := by
  show wpG M A (do
    let v ← eval x env
    standAt pos
    let t ← holding [v] (truthy v)
    match BoolOp.And, t with
    | .And, false | .Or, true => pure v
    | _, _ => (do
      let v ← eval y env
      standAt pos
      let t ← holding [v] (truthy v)
      match BoolOp.And, t with
      | .And, false | .Or, true => pure v
      | _, _ => boolOp pos .And [eval z env])) Q E s
  refine wpG_first (wpAny_mono h (fun v s₁ h₁ => wpG_first (wpAny_standAt (wpG_first (wpAny_holding (wpAny_mono h₁ (fun t s₂ h₂ => ?_) fun _ _ x => x))))) fun _ _ x => x)
  cases t with
  | false => exact wpG_pure h₂
  | true =>
    refine wpG_bind (wpG_mono h₂ (fun v s₃ h₃ => wpG_first (wpAny_standAt (wpG_first (wpAny_holding (wpAny_mono h₃ (fun t s₄ h₄ => ?_) fun _ _ x => x))))) fun _ _ x => x)
    cases t with
    | false => exact wpG_pure h₄
    | true => exact wpG_of h₄
end

section
variable {prog : Program} {w : World} {A : Around} {E : Value → Shared → Prop} {s : Shared} {env : Env}
theorem wpG_Call_method {o : Expr} {name : Str} {apos pos : Pos} {args : List Expr} {T id : String} {Q : Value → Shared → Prop}
    (hbase : attributeBase o name env (eval o env) = eval o env)
    (hfew : ((backTo pos (starEach args env)).all (fun x => !x.1) && (backToKw pos (keywordEach [] env)).all (fun x => x.1.isSome)
      && decide (args.length + ([] : List Keyword).length + (if ([] : List Keyword).isEmpty then 0 else 1) < 30)) = true)
    (hline : (apos.endLine == pos.line) = true)
    (pa : PlainAttrs T) (slot : Slot T name id) (hty : typeOf (.builtin id) = pure (.type "method_descriptor"))
    (h : wpAny (model prog w) A (eval o env) (fun ov s₁ => s₁.TypeIs ov T ∧ (∀ a, ov = .ref a → ∃ ob, s₁.heap.get? a = some ob ∧ ob.dict = none) ∧
      wpG (model prog w) A (callWith pos (.builtin id) [ov] (backTo pos (starEach args env)) []) Q E s₁) E s) :
    wpG (model prog w) A (eval (.Call (.Attribute o name apos) args [] pos) env) Q E s := by
  rw [arm_eval_Call, hbase]
  refine wpG_first (wpAny_mono h (fun ov s₁ h₁ => ?_) fun _ _ e => e)
  obtain ⟨hT, hd, hc⟩ := h₁
  refine wpG_first (wpAny_standAt ?_)
  have hform : methodCallForm (args.length + ([] : List Keyword).length) (backTo pos (starEach args env)) (backToKw pos (keywordEach [] env)) = true := hfew
  have hpos : methodCallPos true o env apos pos = pure pos := by unfold methodCallPos; simp [hline]
  unfold methodCall
  rw [hform]
  refine wpG_first (wpAny_holding (getMethod_builtin hT pa slot hty hd ?_))
  exact wpG_first (wpAny_of_eq hpos hc)
end
section
variable {prog : Program} {w : World} {A : Around} {s : Shared} {env : Env} {h₀ : Heap} {L : Addr}
def goG (prog : Program) (w : World) (A : Around) (env : Env) (target : Expr) (body : List Stmt) : GoT := fun v s QT =>
  wpAny (model prog w) A (assign target env v) (fun _ s₃ => wpG (model prog w) A (execs body env) QT (fun _ _ => False) s₃) (fun _ _ => False) s
/-- a for over anything that walks, by an invariant over the frame and the ledger -/
theorem for_invG {target iter : Expr} {body : List Stmt} {pos : Pos} {Q : Flow → Shared → Prop}
    (h : wpAny (model prog w) A (eval iter env) (fun xv s₁ => wpAny (model prog w) A (pyIter xv) (fun it s₂ => ForHd prog w A h₀ L (goG prog w A env target body) Q it s₂) (fun _ _ => False) s₁) (fun _ _ => False) s)
    (hs : ∀ x, foldedSetIterable iter env x = pure x := by intro _; rfl) (ht : ∀ it v, letOwnedTupleGo target it v = pure () := by intro _ _; rfl) {E : Value → Shared → Prop} :
    wpG (model prog w) A (exec (.For target iter body [] pos) env) Q E s := by
  refine wpG_For (wpAny_mono h (fun xv s₁ h₁ => wpAny_mono h₁ (fun it s₂ h₂ => ?_) fun _ _ e => e) fun _ _ e => e) hs
  obtain ⟨Inv, k₀, h0, go⟩ := h₂.inv
  refine codeG_forLoop Inv (fun k s' hI => wpAny_mono (go k s' hI) (fun r s₁ x => ?_) fun _ _ e => e) k₀ h0 (ht _)
  cases r with
  | none => exact x
  | some v => exact wpAny_mono x (fun _ s₃ h₃ => wpG_mono h₃ (fun f s₄ h₄ => by cases f <;> exact h₄) fun _ _ e => e) fun _ _ e => e
/-- what a for's head hands on: over a list that stands on the ledger -/
theorem iter_listG {target : Expr} {body : List Stmt} {Q : Flow → Shared → Prop} {l : Addr} {ws : List Value} {n₀ : Nat} {m : Str → Option Value} {news : List (Addr × Obj)}
    (J : Nat → (Str → Option Value) → List (Addr × Obj) → Prop) (hh : A.handled = none) (F : Fr h₀ L s.heap m) (N : News h₀ L s.heap news) (hj : J 0 m news)
    (hJc : ∀ i m nw, J i m nw → ∀ q ∈ nw, q.2.cls ≠ .type "list_iterator") (hkeep : ∀ i m nw, J i m nw → (l, PySem.W.listOf (List.toArray ws) n₀) ∈ nw)
    (turn : ∀ i v h tk m₁ nw o I, ws[i]? = some v → J i m₁ nw → o.cls = .type "list_iterator" → Fr h₀ L h m₁ → News h₀ L h ((I, o) :: nw) → (∀ q ∈ nw, @Ne Nat q.1 I) →
        ∀ QT : Flow → Shared → Prop, (∀ f s', LEnd h₀ L (fun m' nw' => ∃ nx, nw' = (I, o) :: nx ∧ J (i + 1) m' nx) s Q f s' → QT f s') →
        wpAny (model prog w) A (assign target env v) (fun _ s₃ => wpG (model prog w) A (execs body env) QT (fun _ _ => False) s₃) (fun _ _ => False) { s with heap := h, toks := tk })
    (done : ∀ h' tk m' nw, Fr h₀ L h' m' → News h₀ L h' nw → J ws.length m' nw → Q .next { s with heap := h', toks := tk }) :
    wpAny (model prog w) A (pyIter (.ref l)) (fun it s₂ => ForHd prog w A h₀ L (goG prog w A env target body) Q it s₂) (fun _ _ => False) s :=
  iter_listX J hh F N hj hJc hkeep turn done
end
end
section
section
variable {prog : Program} {w : World} {A : Around} {s : Shared} {env : Env} {h₀ : Heap} {L : Addr}
theorem iter_rangeX {Go : GoT} (ic : Obj → Prop) (h1 : ∀ o, ic o → o.cls = .type "range_iterator") (h2 : ∀ o fs, o.cls = .type "range_iterator" → o.data = .fields fs → ic o)
    {Q : Flow → Shared → Prop} {r : Addr} {a b c : Int} {t u v : Tok} {n : Nat} {m : Str → Option Value} {news : List (Addr × Obj)}
    (J : Nat → (Str → Option Value) → List (Addr × Obj) → Prop) (hh : A.handled = none) (hr : IsRange s.heap r a b c t u v) (hsm : Builtin.Range.small a b c = true) (hsz : Builtin.Range.rangeSize a b c = (n : Int)) (F : Fr h₀ L s.heap m) (N : News h₀ L s.heap news) (hj : J 0 m news)
    (hJc : ∀ i m nw, J i m nw → ∀ q ∈ nw, ¬ ic q.2)
    (turn : ∀ i t h tk m₁ nw o I, i < n → J i m₁ nw → ic o → Fr h₀ L h m₁ → News h₀ L h ((I, o) :: nw) → (∀ q ∈ nw, @Ne Nat q.1 I) →
        ∀ QT : Flow → Shared → Prop, (∀ f s', LEnd h₀ L (fun m' nw' => ∃ nx, nw' = (I, o) :: nx ∧ J (i + 1) m' nx) s Q f s' → QT f s') → Go (.int (a + (i : Int) * c) t) { s with heap := h, toks := tk } QT)
    (done : ∀ h' tk m' nw, Fr h₀ L h' m' → News h₀ L h' nw → J n m' nw → Q .next { s with heap := h', toks := tk }) :
    wpAny (model prog w) A (pyIter (.ref r)) (fun it s₂ => ForHd prog w A h₀ L Go Q it s₂) (fun _ _ => False) s := by
  refine wpAny_pyIter_range hr hsm ?_
  have W := Walks.range (prog := prog) (w := w) hh s.heap.objs.size a c n
  refine ⟨_, _, _, n, _, _, m, news, J, ic, [], rfl, W, rfl, Nat.ne_of_lt F.ns.lt, next_is_new F,
    ?_, fun i h st => ?_, F.push _, (fun q hq => ⟨Heap.get?_push_of_some _ (N q hq).1, (N q hq).2⟩), hj, hJc, ?_, ?_, ?_, ?_⟩
  · rw [hsz]
    show Heap.get? _ _ = _
    rw [show a + ((0 : Nat) : Int) * c = a by simp, show (n : Int) - ((0 : Nat) : Int) = n by simp]
    exact Heap.get?_push_size _ rfl
  · exact ⟨_, st, h2 _ _ rfl rfl⟩
  · intro b hb
    simp only [List.mem_cons, List.not_mem_nil, or_false] at hb
    exact .inl hb
  · intro i m nw hJ q hq
    cases hq
  · rintro i v h tk m₁ nw o hi ⟨t', rfl⟩ hJ hc F₁ N₁
    refine turn i t' h tk m₁ nw o _ hi hJ hc F₁ N₁ fun q hq e => ?_
    have h1 := (N₁ q (.tail _ hq)).1
    have h2 := (N₁ _ (.head _)).1
    dsimp only at h2
    rw [show q.1 = s.heap.objs.size from e, h2] at h1
    exact hJc i m₁ nw hJ q hq (Option.some.inj h1 ▸ hc)
  · exact done
theorem iter_range {target : Expr} {body : List Stmt} {Q : Flow → Shared → Prop} {r : Addr} {a b c : Int} {t u v : Tok} {n : Nat} {m : Str → Option Value} {news : List (Addr × Obj)}
    (J : Nat → (Str → Option Value) → List (Addr × Obj) → Prop) (hh : A.handled = none) (hr : IsRange s.heap r a b c t u v) (hsm : Builtin.Range.small a b c = true) (hsz : Builtin.Range.rangeSize a b c = (n : Int)) (F : Fr h₀ L s.heap m) (N : News h₀ L s.heap news) (hj : J 0 m news)
    (hJc : ∀ i m nw, J i m nw → ∀ q ∈ nw, q.2.cls ≠ .type "range_iterator")
    (turn : ∀ i t h tk m₁ nw o I, i < n → J i m₁ nw → o.cls = .type "range_iterator" → Fr h₀ L h m₁ → News h₀ L h ((I, o) :: nw) → (∀ q ∈ nw, @Ne Nat q.1 I) →
        ∀ QT : Flow → Shared → Prop, (∀ f s', LEnd h₀ L (fun m' nw' => ∃ nx, nw' = (I, o) :: nx ∧ J (i + 1) m' nx) s Q f s' → QT f s') →
        wpAny (model prog w) A (assign target env (.int (a + (i : Int) * c) t)) (fun _ s₃ => wpAny (model prog w) A (execs body env) QT (fun _ _ => False) s₃) (fun _ _ => False) { s with heap := h, toks := tk })
    (done : ∀ h' tk m' nw, Fr h₀ L h' m' → News h₀ L h' nw → J n m' nw → Q .next { s with heap := h', toks := tk }) :
    wpAny (model prog w) A (pyIter (.ref r)) (fun it s₂ => ForHd prog w A h₀ L (goA prog w A env target body) Q it s₂) (fun _ _ => False) s :=
  iter_rangeX (fun o => o.cls = .type "range_iterator") (fun _ h => h) (fun _ _ h _ => h) J hh hr hsm hsz F N hj hJc turn done
theorem iter_rangeG {target : Expr} {body : List Stmt} {Q : Flow → Shared → Prop} {r : Addr} {a b c : Int} {t u v : Tok} {n : Nat} {m : Str → Option Value} {news : List (Addr × Obj)}
    (J : Nat → (Str → Option Value) → List (Addr × Obj) → Prop) (hh : A.handled = none) (hr : IsRange s.heap r a b c t u v) (hsm : Builtin.Range.small a b c = true) (hsz : Builtin.Range.rangeSize a b c = (n : Int)) (F : Fr h₀ L s.heap m) (N : News h₀ L s.heap news) (hj : J 0 m news)
    (hJc : ∀ i m nw, J i m nw → ∀ q ∈ nw, q.2.cls ≠ .type "range_iterator")
    (turn : ∀ i t h tk m₁ nw o I, i < n → J i m₁ nw → o.cls = .type "range_iterator" → Fr h₀ L h m₁ → News h₀ L h ((I, o) :: nw) → (∀ q ∈ nw, @Ne Nat q.1 I) →
        ∀ QT : Flow → Shared → Prop, (∀ f s', LEnd h₀ L (fun m' nw' => ∃ nx, nw' = (I, o) :: nx ∧ J (i + 1) m' nx) s Q f s' → QT f s') →
        wpAny (model prog w) A (assign target env (.int (a + (i : Int) * c) t)) (fun _ s₃ => wpG (model prog w) A (execs body env) QT (fun _ _ => False) s₃) (fun _ _ => False) { s with heap := h, toks := tk })
    (done : ∀ h' tk m' nw, Fr h₀ L h' m' → News h₀ L h' nw → J n m' nw → Q .next { s with heap := h', toks := tk }) :
    wpAny (model prog w) A (pyIter (.ref r)) (fun it s₂ => ForHd prog w A h₀ L (goG prog w A env target body) Q it s₂) (fun _ _ => False) s :=
  iter_rangeX (fun o => o.cls = .type "range_iterator") (fun _ h => h) (fun _ _ h _ => h) J hh hr hsm hsz F N hj hJc turn done
theorem iter_rangeD {target : Expr} {body : List Stmt} {Q : Flow → Shared → Prop} {r : Addr} {a b c : Int} {t u v : Tok} {n : Nat} {m : Str → Option Value} {news : List (Addr × Obj)}
    (J : Nat → (Str → Option Value) → List (Addr × Obj) → Prop) (hh : A.handled = none) (hr : IsRange s.heap r a b c t u v) (hsm : Builtin.Range.small a b c = true) (hsz : Builtin.Range.rangeSize a b c = (n : Int)) (F : Fr h₀ L s.heap m) (N : News h₀ L s.heap news) (hj : J 0 m news)
    (hJc : ∀ i m nw, J i m nw → ∀ q ∈ nw, ¬ (q.2.cls = .type "range_iterator" ∧ ∃ fs, q.2.data = .fields fs))
    (turn : ∀ i t h tk m₁ nw o I, i < n → J i m₁ nw → (o.cls = .type "range_iterator" ∧ ∃ fs, o.data = .fields fs) → Fr h₀ L h m₁ → News h₀ L h ((I, o) :: nw) → (∀ q ∈ nw, @Ne Nat q.1 I) →
        ∀ QT : Flow → Shared → Prop, (∀ f s', LEnd h₀ L (fun m' nw' => ∃ nx, nw' = (I, o) :: nx ∧ J (i + 1) m' nx) s Q f s' → QT f s') →
        wpAny (model prog w) A (assign target env (.int (a + (i : Int) * c) t)) (fun _ s₃ => wpAny (model prog w) A (execs body env) QT (fun _ _ => False) s₃) (fun _ _ => False) { s with heap := h, toks := tk })
    (done : ∀ h' tk m' nw, Fr h₀ L h' m' → News h₀ L h' nw → J n m' nw → Q .next { s with heap := h', toks := tk }) :
    wpAny (model prog w) A (pyIter (.ref r)) (fun it s₂ => ForHd prog w A h₀ L (goA prog w A env target body) Q it s₂) (fun _ _ => False) s :=
  iter_rangeX (fun o => o.cls = .type "range_iterator" ∧ ∃ fs, o.data = .fields fs) (fun _ h => h.1) (fun _ fs h e => ⟨h, fs, e⟩) J hh hr hsm hsz F N hj hJc turn done
end
end
example {M : PySem.Model} {A : PySem.Around} {t : PySem.Sem Unit} {Q : Unit → PySem.Shared → Prop} {E : PySem.Value → PySem.Shared → Prop} {s : PySem.Shared} (h : PySem.wpAny M A t Q E s) : PySem.wpAny M A t Q E s := by first | (walk1; fail) | exact h
/-- entering a def of the text with touched objects, over the clean stacks -/
theorem enterGT {prog : Program} {w : World} {A : Around} {s : Shared} {h₀ : Heap} {K : Frag} {mg mb : Str → Option Value} {p : Program} {loose : List Str} {mean : ExcName → Option Value} {Q E : Value → Shared → Prop} {name qual : Str} {params : Arguments} {body : List Stmt} {scope : Scope}
    {dV kV doc pm cdv ct oc : Value} {an od : Option Addr} {osl : Array (Option Value)} {f : Addr} {pos : List Value} {binds : List (Str × Value)}
    (touched : List (Addr × Obj))
    (X : K.In h₀) (T : Top p loose mean mg mb h₀) (hst : h₀.StaysIn s.heap) (hT : ∀ q ∈ touched, h₀.get? q.1 = none ∧ s.heap.get? q.1 = some q.2)
    (ho : K.lookup f = some ⟨oc, od, .func (fnOf name qual params body scope dV kV doc pm an cdv ct), osl⟩) (hcd : codeIn K cdv qual = true) (hroom : A.depth < recursionLimit)
    (hbind : BindsTo s (fnOf name qual params body scope dV kV doc pm an cdv ct) ⟨pos, []⟩ binds) (hloc : ∀ y ∈ binds, scope.names.lookup y.1 = some .local)
    (h : ∀ L' h₁, Fr (hideAll s.heap (touched.map (·.1))) L' h₁ (fun y => binds.reverse.lookup y) → News (hideAll s.heap (touched.map (·.1))) L' h₁ touched → K.In (hideAll s.heap (touched.map (·.1))) →
      Top p loose mean mg mb (hideAll s.heap (touched.map (·.1))) → L' = s.heap.objs.size →
      wpG (model prog w) (A.deeper (envOf qual scope L' f cdv)) (execs body (envOf qual scope L' f cdv)) (fun fl s' => Q (match fl with | .ret v => v | _ => .none) s') (fun _ _ => False) { s with heap := h₁, toks := s.toks + binds.length })
    (hco : scope.isCoroutine = false) (hgen : scope.isGenerator = false) (hk : scope.kind = .function) (hcell : ∀ x ∈ scope.names, x.2 ≠ .cell) :
    wpG (model prog w) A (call (.ref f) pos []) Q E s := by
  refine wpG_call ?_
  have st : h₀.StaysIn (hideAll s.heap (touched.map (·.1))) := fun b o e => hideAll_get _ (hst b o e) fun q => by
    obtain ⟨r, hr, rfl⟩ := List.mem_map.mp q
    rw [(hT r hr).1] at e; cases e
  have Xs : K.In s.heap := X.keeps hst
  have Ts : Top p loose mean mg mb s.heap := T.keeps hst
  refine codeG_call_function (fd := fnOf name qual params body scope dV kV doc pm an cdv ct) hroom (Xs _ _ ho) rfl hco hgen rfl (codeRec_of Xs hcd) (hbind _ _ _ _ ?_)
  refine wpAny_newFunctionEnv hcell hloc (fun h₁ hns hsb => ⟨Ts.nolimit.fresh _ hsb, codeG_func ?_⟩) hk
  have hk₁ : ∀ b o, s.heap.get? b = some o → h₁.get? b = some o := fun b o e => hsb.extBut b o (Nat.ne_of_lt (Heap.lt_size e)) (Heap.get?_push_of_some _ e)
  exact h s.heap.objs.size h₁ ⟨hns, fun b o e => hk₁ b o (of_hideAll _ e), Nat.le_of_eq (hideAll_size _ _)⟩
    (fun q hq => ⟨hk₁ _ _ (hT q hq).2, Nat.ne_of_lt (Heap.lt_size (hT q hq).2), hideAll_none _ (List.mem_map_of_mem hq)⟩) (X.keeps st) (T.keeps st) rfl

theorem parts_at {tl : List (Addr × Obj)} {ws : List Value} {ps : List Part} (h : PartsIn tl ws ps) : ∀ {i : Nat} {v : Value}, ws[i]? = some v → ∃ p, ps.drop i = p :: ps.drop (i + 1) ∧ PartIn tl v p := by
  induction h with
  | nil => intro i v e; simp at e
  | cons a _ ih =>
    intro i v e
    cases i with
    | zero => simp at e; subst e; exact ⟨_, rfl, a⟩
    | succ i => simpa using ih (by simpa using e)
theorem ba_len_news {prog : Program} {w : World} {A : Around} {E : Value → Shared → Prop} {s : Shared} {h₀ : Heap} {L a : Addr} {news : List (Addr × Obj)} {b : List UInt8} {Q : Value → Shared → Prop}
    (N : News h₀ L s.heap news) (hm : (a, baObj b) ∈ news) (hz : b.length ≤ 1000000) (h : ∀ t k, Q (.int b.length t) { s with toks := k }) : wpAny (model prog w) A (call (.builtin "len") [.ref a]) Q E s := ba_len (N.get hm) hz h
theorem ba_item_news {prog : Program} {w : World} {A : Around} {E : Value → Shared → Prop} {s : Shared} {h₀ : Heap} {L a : Addr} {news : List (Addr × Obj)} {b : List UInt8} {i : Int} {u : Tok} {value slice : Expr} {Q : Value → Shared → Prop}
    (N : News h₀ L s.heap news) (hm : (a, baObj b) ∈ news) (hz : b.length ≤ 1000000) (h0 : 0 ≤ i) (h1 : i < b.length) (h : ∀ t k, Q (.int (byteI b i) t) { s with toks := k })
    (hs : subscripted slice false (.ref a) (.int i u) = operate [.ref a, .int i u] (getItem (.ref a) (.int i u)) := by with_unfolding_all rfl) :
    wpAny (model prog w) A (subscriptTail value slice (.ref a) (.int i u)) Q E s :=
  tail_any (ba_type (N.get hm)) fa_slot_getitem.lookup (ba_getitem (N.get hm) h0 h1 hz h) hs
theorem wpG_append_S {prog : Program} {w : World} {A : Around} {E : Value → Shared → Prop} {s : Shared} {env : Env} {o : Expr} {apos pos : Pos} {args : List Expr} {Q : Value → Shared → Prop}
    (hbase : attributeBase o "append" env (eval o env) = eval o env)
    (hfew : ((backTo pos (starEach args env)).all (fun x => !x.1) && (backToKw pos (keywordEach [] env)).all (fun x => x.1.isSome)
      && decide (args.length + ([] : List Keyword).length + (if ([] : List Keyword).isEmpty then 0 else 1) < 30)) = true)
    (hline : (apos.endLine == pos.line) = true)
    (h : wpAny (model prog w) A (eval o env) (fun ov s₁ => Stop (∃ a b, ov = .ref a ∧ s₁.heap.get? a = some (baObj b) ∧
      wpG (model prog w) A (callWith pos (.builtin "bytearray.append") [ov] (backTo pos (starEach args env)) []) Q E s₁)) E s) :
    wpG (model prog w) A (eval (.Call (.Attribute o "append" apos) args [] pos) env) Q E s := by
  refine wpG_Call_method hbase hfew hline fa_attrs fa_slot_append fa_type_append (wpAny_mono h (fun ov s₁ h₁ => ?_) fun _ _ e => e)
  obtain ⟨a, b, rfl, ho, hc⟩ := h₁
  exact ⟨ba_type ho, fun x e => ⟨baObj b, Value.ref.inj e ▸ ho, rfl⟩, hc⟩
theorem take_push {B : List UInt8} {a : Nat} (h : a < B.length) {x : Int} (hx : x = ((B.getD a 0).toNat : Int)) : B.take a ++ [x.toNat.toUInt8] = B.take (a + 1) := by
  rw [List.take_add_one, List.getElem?_eq_getElem h, hx]
  simp [List.getD, List.getElem?_eq_getElem h]
theorem g_make_news {prog : Program} {w : World} {A : Around} {E : Value → Shared → Prop} {s : Shared} {h₀ : Heap} {L : Addr} {m : Str → Option Value} {news : List (Addr × Obj)} {Q : Value → Shared → Prop} (hg : A.guards = some [])
    (F : Fr h₀ L s.heap m) (N : News h₀ L s.heap news) (h : ∀ o h', Fr h₀ L h' m → News h₀ L h' ((o, baObj []) :: news) → s.heap.get? o = none → Q (.ref o) { s with heap := h' }) : wpG (model prog w) A (call (.type "bytearray") []) Q E s := by
  refine g_make hg ?_
  have hn : s.heap.get? s.heap.objs.size = none := Heap.get?_none_of_le (Nat.le_refl _)
  have st : s.heap.StaysIn ((s.heap.push (baObj [])).update s.heap.objs.size (Obj.mapBytearray fun _ => #[])) := fun b o e =>
    (Heap.get?_update_other _ _ (Nat.ne_of_gt (Heap.lt_size e))).trans (Heap.get?_push_of_some _ e)
  exact h _ _ (fr_after0 F st) (news_cons' F (news_after0 N st) hn (Heap.get?_update_self (Obj.mapBytearray fun _ => #[]) (Heap.get?_push_size _ rfl) rfl)) hn
theorem g_append_news {prog : Program} {w : World} {A : Around} {E : Value → Shared → Prop} {s : Shared} {h₀ : Heap} {L a : Addr} {m : Str → Option Value} {news : List (Addr × Obj)} {b : List UInt8} {i : Int} {t : Tok} {Q : Value → Shared → Prop} (hg : A.guards = some [])
    (F : Fr h₀ L s.heap m) (N : News h₀ L s.heap ((a, baObj b) :: news)) (hn : ∀ q ∈ news, q.1 ≠ a) (h0 : 0 ≤ i) (h1 : i < 256) (hz : b.length + 1 ≤ 1000000)
    (h : ∀ h', Fr h₀ L h' m → News h₀ L h' ((a, baObj (b ++ [i.toNat.toUInt8])) :: news) → Q .none { s with heap := h' }) : wpG (model prog w) A (call (.builtin "bytearray.append") [.ref a, .int i t]) Q E s := by
  have ho := N.get (.head _)
  refine g_append hg ho h0 h1 hz ?_
  have sb : Heap.SameBut a s.heap (s.heap.update a (Obj.mapBytearray (·.push i.toNat.toUInt8))) := Heap.SameBut.update ..
  refine h _ (F.update N (.head _) sb) ?_
  refine news_set (pre := []) N (fun _ q => nomatch q) hn sb ?_
  refine (Heap.get?_update_self (Obj.mapBytearray (·.push i.toNat.toUInt8)) ho rfl).trans ?_
  simp [Obj.mapBytearray, baObj]

/-- parts that stand for the octets from a on -/
inductive Parse (B : List UInt8) : Nat → List Part → Prop
  | nil : Parse B B.length []
  | oct {a : Nat} {ps : List Part} : a < B.length → Parse B (a + 1) ps → Parse B a (.inl (byteI B a) :: ps)
  | pair {a n d : Nat} {ps : List Part} : 1 ≤ d → d ≤ a → a + n ≤ B.length → (∀ j, j < n → B.getD (a + j) 0 = B.getD (a + j - d) 0) → Parse B (a + n) ps → Parse B a (.inr ((n : Int), (d : Int)) :: ps)



section
local macro_rules | `(tactic| walk_at "call builtin:len") => `(tactic| (k_here; (with_reducible show wpAny _ _ (call (Value.builtin "len") [Value.ref _]) _ _ _); first | k_dflt (refine' len_news ?N ?m ?f ?_; (case N => k_asm); (case m => k_mem); (case f => omega)) | k_dflt (refine' ba_len_news ?N ?m ?f ?_; (case N => k_asm); (case m => k_mem); (case f => omega); intro _ _)))
variable {w : World} {h₀ : Heap} {mg mb : Str → Option Value} {p : Program} {loose : List Str} {mean : ExcName → Option Value} {s : Shared} {dp un : Nat} {fr : Option (List Env)} {Q E : Value → Shared → Prop}

theorem c_expanded {B : List UInt8} {ps : List Part} {pl : Addr} {pws : List Value} {pn : Nat} {tl : List (Addr × Obj)} (X : (hd.heap_39 w.params).In h₀) (T : Top p loose mean mg mb h₀) (hst : h₀.StaysIn s.heap)
    (hB : B.length ≤ 20) (hP : Parse B 0 ps) (hI : PartsIn tl pws ps) (hd : dp + 10 < recursionLimit) (hu : un + 100 < cLine)
    (hT : ∀ q ∈ (pl, PySem.W.listOf (List.toArray pws) pn) :: tl, h₀.get? q.1 = none ∧ s.heap.get? q.1 = some q.2) (htc : ∀ q ∈ tl, q.2.cls = .type "tuple")
    (hq : ∀ h' tk' t', (hideAll s.heap (pl :: tl.map (·.1))).StaysIn h' → Q (.bytes B.toArray t') { s with heap := h', toks := tk' }) :
    wpG (model PR w) (arnd dp un fr (some [])) (call (.ref 139) [.ref pl] []) Q E s := by
  refine' enterGT ((pl, PySem.W.listOf (List.toArray pws) pn) :: tl) (by assumption) (by assumption) (by assumption) hT ?k6 ?k7 ?k8 ?k9 ?kB ?_ ?c2 ?c3 ?c4 ?c5
  (case k6 => k_dflt k_is)
  (case k7 => k_dflt k_is)
  (case k8 => exact Nat.lt_of_le_of_lt (Nat.le_add_right _ _) hd)
  (case k9 => first | exact BindsTo.of_eq rfl | exact binds_K (X.keeps hst) rfl (by k_is) rfl rfl rfl)
  (case c5 => decide)
  (case kB => exact locs rfl)
  (case c2 => exact rfl)
  (case c3 => exact rfl)
  (case c4 => exact rfl)
  clear X T
  intro L' h₁ F N X T hL
  try dsimp only
  generalize hg : hideAll s.heap _ = g at F N X T
  replace hg : hideAll s.heap (pl :: tl.map (·.1)) = g := hg
  refine wpG_execs_cons (wpG_Assign_Name (CallG_ ?_))
  k_steps
  refine callWithG_type0 (g_make_news rfl (by assumption) N ?_)
  rename Fr _ _ _ _ => F
  intro o h₂ F₂ N₂ ho
  refine storeX_L (cl := []) F₂ N₂ ?_
  clear F N F₂ N₂
  intro h₃ F N
  dsimp only
  refine wpG_execs_cons (for_invG (h₀ := g) (L := L') ?_)
  k_steps
  have hlen := hI.length
  have hto : ∀ q ∈ tl, @Ne Nat q.1 o := fun q hq => news_cls_ne N (.tail _ (.tail _ hq)) (.head _) (by rw [htc q hq]; simp)
  have hpo : @Ne Nat pl o := news_cls_ne N (.tail _ (.head _)) (.head _) (by simp)
  refine unstop (iter_listG (ws := pws) (n₀ := pn) (J := fun i m' nw => ∃ (a : Nat), nw = (o, baObj (B.take a)) :: (pl, PySem.W.listOf (List.toArray pws) pn) :: tl ∧ a ≤ B.length ∧ Parse B a (ps.drop i) ∧ m' (Str.ofString "out") = some (.ref o))
    rfl F N ⟨0, rfl, Nat.zero_le _, hP, rfl⟩ ?hcl ?hkp ?turn ?done)
  case hcl =>
    rintro i m nw ⟨a, rfl, _⟩ q hq
    simp only [List.mem_cons] at hq
    rcases hq with rfl | rfl | hq
    · simp
    · simp
    · rw [htc q hq]; simp
  case hkp =>
    rintro i m nw ⟨a, rfl, _⟩
    exact .tail _ (.head _)
  case turn =>
    clear F N
    rintro i vv h tk m nw oI I hv ⟨a, rfl, ha, hp, m1⟩ hoI F N hI' QT hQT
    obtain ⟨pt, hdr, hpt⟩ := parts_at hI hv
    rw [hdr] at hp
    refine wpAny_assign_Name (storeX_L (cl := []) F N ?_)
    clear F N
    intro h' F N
    refine wpG_execs_cons (wpG_If ?_)
    cases pt with
    | inl c =>
      obtain ⟨tv, rfl⟩ := hpt
      k_steps
      refine wpG_execs_cons (wpG_Expr (wpG_append_S rfl rfl rfl ?_))
      k_steps
      refine unstop ⟨o, B.take a, rfl, N.get (.tail _ (.head _)), callWithG_builtin1 ?_⟩
      k_steps
      obtain ⟨hlt, hp'⟩ : a < B.length ∧ c = byteI B a ∧ Parse B (a + 1) (ps.drop (i + 1)) := by
        cases hp with
        | oct h1 h2 => exact ⟨h1, rfl, h2⟩
      obtain ⟨hc, hp'⟩ := hp'
      have hcr : 0 ≤ c ∧ c < 256 := by rw [hc]; exact ⟨by unfold byteI; omega, by unfold byteI; exact Int.ofNat_lt.mpr (UInt8.toNat_lt _)⟩
      have hlt2 : (B.take a).length = a := by rw [List.length_take]; exact Nat.min_eq_left (by omega)
      replace N : News g L' h' ((o, baObj (B.take a)) :: (I, oI) :: (pl, PySem.W.listOf (List.toArray pws) pn) :: tl) := news_sub N (by
        walk_at "my sub")
      refine g_append_news (b := B.take a) rfl F (news := (I, oI) :: (pl, PySem.W.listOf (List.toArray pws) pn) :: tl) N ?_ hcr.1 hcr.2 (by omega) ?_
      · intro q hq
        simp only [List.mem_cons] at hq
        rcases hq with rfl | rfl | hq
        · exact fun e => hI' _ (.head _) e.symm
        · exact hpo
        · exact hto q hq
      clear F N
      intro h₅ F N
      dsimp only
      refine wpG_execs_nil ?_
      have e1 : B.take a ++ [c.toNat.toUInt8] = B.take (a + 1) := by
        rw [List.take_add_one, List.getElem?_eq_getElem hlt, hc]
        simp [byteI, List.getD, List.getElem?_eq_getElem hlt]
      rw [e1] at N
      dsimp only
      refine wpG_execs_nil ?_
      refine hQT _ _ <| LEnd.intro F (news_sub N ?_) ⟨_, rfl, a + 1, rfl, hlt, hp', m1⟩
      walk_at "my sub"
    | inr d =>
      obtain ⟨pa, t₁, t₂, rfl, hpm⟩ := hpt
      obtain ⟨n, dd, rfl, h1, h2, h3, h4, hp'⟩ : ∃ n dd : Nat, d = ((n : Int), (dd : Int)) ∧ 1 ≤ dd ∧ dd ≤ a ∧ a + n ≤ B.length ∧ (∀ j, j < n → B.getD (a + j) 0 = B.getD (a + j - dd) 0) ∧ Parse B (a + n) (ps.drop (i + 1)) := by
        cases hp with
        | pair h1 h2 h3 h4 h5 => exact ⟨_, _, rfl, h1, h2, h3, h4, h5⟩
      have hlt2 : (B.take a).length = a := by rw [List.length_take]; exact Nat.min_eq_left (by omega)
      replace N : News g L' h' ((pa, tup2 n t₁ dd t₂) :: (o, baObj (B.take a)) :: (I, oI) :: (pl, PySem.W.listOf (List.toArray pws) pn) :: tl) := news_sub N (by
        walk_at "my sub")
      k_steps
      refine wpG_execs_cons (wpG_of ?_)
      k_steps
      rename Fr _ _ _ _ => F
      rename News _ _ _ _ => N
      refine wpG_execs_cons (wpG_If ?_)
      k_steps
      refine wpG_execs_nil ?_
      dsimp only
      refine wpG_execs_cons (for_invG (h₀ := g) (L := L') ?_)
      k_steps
      rename IsRange _ _ _ _ _ _ _ _ => hrg
      rename Fr _ _ _ _ => F
      rename News _ _ _ _ => N
      refine unstop (iter_rangeG (n := n) (J := fun j m' nw => nw = (o, baObj (B.take (a + j))) :: (I, oI) :: (pl, PySem.W.listOf (List.toArray pws) pn) :: tl ∧ m' (Str.ofString "out") = some (.ref o) ∧ m' (Str.ofString "distance") = some (.int dd t₂))
        rfl hrg (small_one (by omega) (by omega) (by omega) (by omega)) (by rw [rangeSize_one]; split <;> omega) F (news_sub N ?hsub) ⟨rfl, by walk_at "my look", by walk_at "my look"⟩ ?hcl ?turn2 ?done2)
      case hsub =>
        walk_at "my sub"
      case hcl =>
        rintro j m nw ⟨rfl, _⟩ q hq
        simp only [List.mem_cons] at hq
        rcases hq with rfl | rfl | rfl | hq
        · simp
        · rw [hoI]; simp
        · simp
        · rw [htc q hq]; simp
      case turn2 =>
        clear F N
        rintro j tj h tk m nw oJ K hj ⟨rfl, e1, e2⟩ hoJ F N hK QI hQI
        have hlt3 : (B.take (a + j)).length = a + j := by rw [List.length_take]; exact Nat.min_eq_left (Nat.le_trans (Nat.add_le_add_left (Nat.le_of_lt hj) a) h3)
        refine wpAny_assign_Name (storeX_L (cl := []) F N ?_)
        clear F N
        intro h' F N
        refine wpG_execs_cons (wpG_Expr (wpG_append_S rfl rfl rfl ?_))
        k_steps
        refine unstop ⟨o, B.take (a + j), rfl, N.get (.tail _ (.head _)), callWithG_builtin1 ?_⟩
        k_steps
        refine ba_item_news N (.tail _ (.head _)) (by omega) (by omega) (by omega) ?_
        intro t5 k5
        k_steps
        obtain ⟨x, hx⟩ : ∃ x, byteI (B.take (a + j)) (((B.take (a + j)).length : Int) - dd) = x := ⟨_, rfl⟩
        rw [hx]
        have hx2 : x = ((B.getD (a + j) 0).toNat : Int) := by
          rw [← hx, hlt3, h4 j hj]
          unfold byteI
          rw [show (((a + j : Nat) : Int) - (dd : Int)).toNat = a + j - dd from Int.toNat_sub _ _]
          have hj2 : a + j - dd < a + j := by omega
          simp [List.getD, List.getElem?_take, hj2]
        replace N : News g L' h' ((o, baObj (B.take (a + j))) :: (K, oJ) :: (I, oI) :: (pl, PySem.W.listOf (List.toArray pws) pn) :: tl) := news_sub N (by
          walk_at "my sub")
        refine g_append_news (b := B.take (a + j)) rfl F (news := (K, oJ) :: (I, oI) :: (pl, PySem.W.listOf (List.toArray pws) pn) :: tl) N ?_ (by omega) (by rw [hx2]; exact Int.ofNat_lt.mpr (UInt8.toNat_lt _)) (by omega) ?_
        · intro q hq
          simp only [List.mem_cons] at hq
          rcases hq with rfl | rfl | rfl | hq
          · exact fun e => hK _ (.head _) e.symm
          · exact fun e => hI' _ (.head _) e.symm
          · exact hpo
          · exact hto q hq
        clear F N
        intro h₅ F N
        dsimp only
        refine wpG_execs_nil ?_
        rw [take_push (by omega) hx2] at N
        refine hQI _ _ <| LEnd.intro F (news_sub N ?_) ⟨_, rfl, rfl, by walk_at "my look", by walk_at "my look"⟩
        walk_at "my sub"
      case done2 =>
        clear F N
        rintro h' tk m nw F N ⟨rfl, e1, e2⟩
        dsimp only
        refine wpG_execs_nil ?_
        dsimp only
        refine wpG_execs_nil ?_
        refine hQT _ _ <| LEnd.intro F (news_sub N ?_) ⟨_, rfl, a + n, rfl, h3, hp', e1⟩
        walk_at "my sub"
  case done =>
    clear F N
    rintro h' tk m nw F N ⟨a, rfl, ha, hp, m1⟩
    dsimp only
    have hae : a = B.length := by
      rw [hlen, List.drop_length] at hp
      cases hp with
      | nil => rfl
    rw [hae, List.take_length] at N
    refine wpG_of ?_
    k_steps
    refine ba_bytes (N.get (.head _)) (by omega) ?_
    intro t5 k5
    k_steps
    exact hq _ _ _ (hg ▸ F.keep)
end
example {M : PySem.Model} {A : PySem.Around} {t : PySem.Sem Unit} {Q : Unit → PySem.Shared → Prop} {E : PySem.Value → PySem.Shared → Prop} {s : PySem.Shared} (h : PySem.wpAny M A t Q E s) : PySem.wpAny M A t Q E s := by first | (walk1; fail) | exact h

local macro_rules | `(tactic| walk_at "eval Name") => `(tactic| (k_here; refine' nameX_L ?F ?v ?_ ?a ?b; (case F => k_asm); (case a => exact rfl); (case b => exact rfl); (case v => walk_at "my look"); k_whole))
local macro_rules | `(tactic| walk_at "loadName") => `(tactic| (k_here; refine' ldX ?F ?v ?_ ?a ?b; (case F => k_asm); (case a => exact rfl); (case b => exact rfl); (case v => walk_at "my look"); k_whole))


section
variable {w : World} {h₀ : Heap} {mg mb : Str → Option Value} {p : Program} {loose : List Str} {mean : ExcName → Option Value} {s : Shared} {dp un : Nat} {fr : Option (List Env)} {gd : Option (List Code)} {Q E : Value → Shared → Prop}

theorem c_law_common {B : List UInt8} {bk at' mo : Int} {t u v z : Tok} (X : (hd.heap_39 w.params).In h₀) (T : Top p loose mean mg mb h₀) (hst : h₀.StaysIn s.heap)
    (hB : B.length ≤ 20) (h0 : 0 ≤ bk) (h1 : bk < at') (h2 : at' ≤ B.length) (h3 : 0 ≤ mo) (h4 : mo ≤ 10) (hd : dp + 2 < recursionLimit) (hu : un + 20 < cLine)
    (hq : ∀ h' tk' t', s.heap.StaysIn h' → Q (.int (comm B bk.toNat at'.toNat (min (B.length - at') mo).toNat) t') { s with heap := h', toks := tk' }) :
    wpAny (model PR w) (arnd dp un fr gd) (call (.ref 153) [.bytes B.toArray t, .int bk u, .int at' v, .int mo z] []) Q E s := by
  obtain ⟨b, rfl⟩ := Int.eq_ofNat_of_zero_le h0
  obtain ⟨a, rfl⟩ := Int.eq_ofNat_of_zero_le (a := at') (by omega)
  obtain ⟨mo, rfl⟩ := Int.eq_ofNat_of_zero_le h3
  obtain ⟨M, hM⟩ : ∃ M : Nat, min ((B.length : Int) - (a : Int)) (mo : Int) = M := Int.eq_ofNat_of_zero_le (by omega)
  have hM1 : a + M ≤ B.length := by omega
  have hM2 : M ≤ mo := Int.ofNat_le.mp (hM ▸ Int.min_le_right _ _)
  have hM3 : M = mo ∨ a + M = B.length := by
    rcases Int.le_total ((B.length : Int) - (a : Int)) (mo : Int) with h | h
    · rw [Int.min_eq_left h] at hM; exact .inr (by omega)
    · rw [Int.min_eq_right h] at hM; exact .inl (Int.ofNat_inj.mp hM).symm
  have hba : b < a := by omega
  rw [hM, Int.toNat_natCast, Int.toNat_natCast, Int.toNat_natCast] at hq
  walk_at "my enter0"
  clear X T
  intro L' h₁ F N X T hL
  try dsimp only
  k_steps
  rename Fr _ _ _ _ => F
  rename News _ _ _ _ => N
  refine unstop ?_
  have hsz := size_cast B
  refine while_inv (JCom B b a M (.bytes B.toArray t) (.int b u) (.int a v) (Str.ofString "most") mo) M F N ⟨0, rfl, Nat.zero_le _, rfl, by simp, rfl, rfl, rfl, ⟨_, _, rfl, rfl⟩, ⟨_, _, rfl, rfl⟩⟩ ?_
  clear F N hM h0 h1 h2 h3 h4
  rintro n h tk m nw F N ⟨i, rfl, hi, rfl, hc, m1, m2, m3, ⟨_, te, m4, rfl⟩, ⟨_, ti, m5, rfl⟩⟩ QT hQT
  k_steps
  · rename Fr _ _ _ _ => F
    rename News _ _ _ _ => N
    rename (_ : Int) = (_ : Int) => hh
    have hlt : i < M := by omega
    rw [at_nat, at_nat] at hh
    exact hQT _ _ <| LEnd.intro F N ⟨_, Nat.sub_lt_sub_left hlt (Nat.lt_succ_self i), i + 1, rfl, hlt, rfl, JCom.next hlt (UInt8.toNat_inj.mp (Int.ofNat_inj.mp hh)) hc, by walk_at "my look", by walk_at "my look", by walk_at "my look", ⟨_, _, by walk_at "my look", rfl⟩, ⟨_, _, by walk_at "my look", rfl⟩⟩
  · dsimp only
    rename ((_ : Int) ≠ (_ : Int)) => hh
    rw [at_nat, at_nat] at hh
    rw [JCom.stop (fun e => hh (by rw [e])) hc] at hq
    exact hq _ _ ti F.keep
  all_goals
    dsimp only
    rw [JCom.done (by omega) hc] at hq
    exact hq _ _ ti F.keep
end
section
theorem news_obj_ne {h₀ h : Heap} {L a b : Addr} {o o' : Obj} {news : List (Addr × Obj)} (N : News h₀ L h news) (h1 : (a, o) ∈ news) (h2 : (b, o') ∈ news) (hc : o ≠ o') : @Ne Nat a b := fun e => by
  have x := N.get h1
  have y := N.get h2
  rw [show a = b from e, y] at x
  exact hc (Option.some.inj x).symm
section
variable {M : Model} {A : Around} {E : Value → Shared → Prop} {s : Shared} {h₀ : Heap} {L a : Addr} {m : Str → Option Value} {cn : Str} {cs : Scope} {ccd : Value} {cl : List (Str × Addr)}
  {x : Str} {v : Value} {Q : Unit → Shared → Prop} {rest : List (Addr × Obj)} {c : Addr} {o : Obj} {v₀ : Option Value}
theorem storeC (F : Fr h₀ L s.heap m) (N : News h₀ L s.heap ((c, o) :: rest)) (hr : ∀ q ∈ rest, q.1 ≠ c) (hc : cl.lookup x = some c) (hd : o.data = .cell v₀)
    (h : ∀ h' o', Fr h₀ L h' m → News h₀ L h' ((c, o') :: rest) → o'.data = .cell (some v) → Q () { s with heap := h' })
    (hk : cs.kind = .function := by rfl) (hx : (envX cn cs L a ccd cl).kindOf x = some .cell := by rfl) : wpAny M A (storeName (envX cn cs L a ccd cl) x v) Q E s := by
  have hmem := N (c, o) (.head _)
  refine wpAny_storeName_cell hk hx hc ⟨o, hmem.1, hd⟩ fun h' hv hs => ?_
  obtain ⟨o', ho', hd'⟩ := hv
  exact h h' o' (F.update N (.head _) hs) (news_set (pre := []) N (fun _ q => nomatch q) hr hs ho') hd'
end
end
example {M : PySem.Model} {A : PySem.Around} {t : PySem.Sem Unit} {Q : Unit → PySem.Shared → Prop} {E : PySem.Value → PySem.Shared → Prop} {s : PySem.Shared} (h : PySem.wpAny M A t Q E s) : PySem.wpAny M A t Q E s := by first | (walk1; fail) | exact h
open PyProof.Rows.LCg
/-- entering a def with cells -/
theorem enterC {prog : Program} {w : World} {A : Around} {s : Shared} {h₀ : Heap} {K : Frag} {mg mb : Str → Option Value} {p : Program} {loose : List Str} {mean : ExcName → Option Value}
    {Q E : Value → Shared → Prop} {name qual : Str} {params : Arguments} {body : List Stmt} {scope : Scope} {dV kV doc pm cdv ct oc : Value} {an od : Option Addr} {osl : Array (Option Value)} {f : Addr} {pos : List Value} {binds : List (Str × Value)}
    (X : K.In h₀) (T : Top p loose mean mg mb h₀) (hst : h₀.StaysIn s.heap)
    (ho : K.lookup f = some ⟨oc, od, .func (fnOf name qual params body scope dV kV doc pm an cdv ct), osl⟩) (hcd : codeIn K cdv qual = true) (hroom : A.depth < recursionLimit)
    (hbind : BindsTo s (fnOf name qual params body scope dV kV doc pm an cdv ct) ⟨pos, []⟩ binds) (hkind : (binds.all fun y => scope.names.lookup y.1 == some .local || scope.names.lookup y.1 == some .cell) = true)
    (hnd : ((cellsFrom 0 scope.names []).map (·.1)).Nodup)
    (h : ∀ L' h₁ tk cells, Fr s.heap L' h₁ (bindL (envOfC qual scope L' f cdv).kindOf binds fun _ => none) → News s.heap L' h₁ cells →
      CellsAre (bindC (envOfC qual scope L' f cdv).kindOf binds fun _ => none) (cellsFrom (L' + 1) scope.names []) cells → K.In s.heap → Top p loose mean mg mb s.heap → L' = s.heap.objs.size →
      wpAny (model prog w) (A.deeper (envOfC qual scope L' f cdv)) (execs body (envOfC qual scope L' f cdv))
        (fun fl s' => Q (match fl with | .ret v => v | _ => .none) s') (fun _ _ => False) { s with heap := h₁, toks := tk })
    (hco : scope.isCoroutine = false) (hgen : scope.isGenerator = false) (hk : scope.kind = .function) :
    wpAny (model prog w) A (call (.ref f) pos []) Q E s := by
  refine wpAny_call ?_
  have Xs : K.In s.heap := X.keeps hst
  have Ts : Top p loose mean mg mb s.heap := T.keeps hst
  refine codeAny_call_function (fd := fnOf name qual params body scope dV kV doc pm an cdv ct) hroom (Xs _ _ ho) rfl hco hgen rfl (codeRec_of Xs hcd) (hbind _ _ _ _ ?_)
  refine wpAny_newFunctionEnv_cells hk (kindsX hkind _) fun env' he s' x => ?_
  subst he
  refine ⟨Ts.nolimit.keeps x.toInCall.keep, codeAny_func ?_⟩
  obtain ⟨h₁, tk, rfl, _⟩ := x.done
  obtain ⟨cells, NC, Y⟩ := Cl.news (h₀ := s.heap) (Nat.le_refl _) fun n c hm => ⟨x.cell n c (lookup_of_mem_nodup (cellsFrom_names scope.names 0 (s.heap.objs.size + 1) [] [] rfl ▸ hnd) hm), x.above n c hm⟩
  exact wpAny_mono (h s.heap.objs.size h₁ tk cells ⟨x.toInCall.ns, x.toInCall.keep, x.toInCall.fresh⟩ NC Y Xs Ts rfl) (fun _ _ x => x) fun _ _ y => y.elim


local macro_rules | `(tactic| walk_at "exec Assign cons ListComp") => `(tactic| refine stop ?_)
local macro_rules | `(tactic| walk_at "CompEnd") => `(tactic| refine stop ?_)
local macro_rules | `(tactic| walk_at "my enterC") => `(tactic| (
  refine' enterC (by assumption) (by assumption) (by assumption) ?k6 ?k7 ?k8 ?k9 ?kB ?kD ?_ ?c2 ?c3 ?c4;
  (case k6 => k_dflt k_is); (case k7 => k_dflt k_is); (case k8 => first | exact Nat.lt_of_le_of_lt (Nat.le_add_right _ _) (by assumption) | omega | (simp only [Around.deeper] at *; omega)); (case k9 => exact BindsTo.of_eq rfl); (case kD => decide); (case kB => exact rfl); (case c2 => exact rfl); (case c3 => exact rfl); (case c4 => exact rfl)))

section
open PyProof.Rows.LCg PyProof.Rows.LCt
variable {prog : Program} {w : World} {A : Around} {E : Value → Shared → Prop} {s : Shared} {h₀ : Heap} {L : Addr} {m : Str → Option Value} {env : Env}
/-- a list comprehension with one test, over a range of any step, put to a name -/
theorem Assign_ListComp_TR {ct elt iter : Expr} {x y : Str} {px py : Pos} {scope : Scope} {cl : List (Str × Addr)} {pos spos : Pos} {Q : Flow → Shared → Prop} (F₀ : Fr h₀ L s.heap m) (hLe : env.locals = L)
    (hsw : swapsWith (.ListComp elt [⟨.Name x px, iter, [ct], 0⟩] scope pos) (some (.Name y py)) spos.line env = pure true)
    (hclos : closureFor scope env = pure cl) (hcell : ∀ z ∈ scope.names, z.2 ≠ .cell) (hkind : scope.kind = .function)
    (hnames : ∀ z ∈ scope.names, z.2 = .local → scope.names.lookup z.1 = some .local) (hx : scope.names.lookup x = some .local)
    (hy : env.kindOf y = some .local) (hp : (env.scope.kind == .class || (env.scope.kind == .module && env.locals != env.globals)) = false)
    (h : wpAny (model prog w) A (eval iter env) (fun xv s₁ => Stop (∃ r a b c t u v n news, xv = .ref r ∧ A.handled = none ∧ Fr h₀ L s₁.heap m ∧ News h₀ L s₁.heap news ∧ IsRange s₁.heap r a b c t u v ∧ Builtin.Range.small a b c = true ∧ Builtin.Range.rangeSize a b c = ((n : Nat) : Int) ∧ n ≤ sizeLine ∧
      ∀ s₂ : Shared, (∃ h, s₂ = { s₁ with heap := h }) → CompRestT prog w A h₀ L m env ct elt x scope cl s₂ (fun _ => True) (fun i v => i < n ∧ ∃ t, v = .int (a + (i : Int) * c) t) (FinA h₀ L m s₂ y Q) n 0 [] news)) E s)
    (hs : ∀ x, foldedSetIterable iter env x = pure x := by intro _; rfl) :
    wpAny (model prog w) A (exec (.Assign [.Name y py] (.ListComp elt [⟨.Name x px, iter, [ct], 0⟩] scope pos) spos) env) Q E s := by
  subst hLe
  rw [exec_Assign_Name_used _ _ _ _ hsw]
  refine wpAny_bind (wpAny_standAt (wpAny_bind ?_))
  show wpAny _ A (do let _ ← comprehension (.ListComp elt [⟨.Name x px, iter, [ct], 0⟩] scope pos) scope env _ (newList []) false (eval iter env) (some (assign (.Name y py) env))) _ _ s
  refine wpAny_bind (wpAny_mono (wpAny_comprehension_free (use := some (assign (.Name y py) env)) (Q := fun _ s' => Q .next s') rfl hs hclos hkind hnames
    (wpAny_mono h (fun xv s₁ h₁ => ?_) fun _ _ e => e)) (fun _ s' hq => wpAny_pure (wpAny_pure hq)) fun _ _ e => e)
  obtain ⟨r, a, b, c, t, u, v, n, news, rfl, hh, F, N, hr, hsm, hn, hsz, R⟩ := h₁
  refine wpAny_pyIter_range hr hsm ?_
  have W : Walks prog w A s₁.heap.objs.size [s₁.heap.objs.size] [s₁.heap.objs.size] n (fun i v => i < n ∧ ∃ t, v = .int (a + (i : Int) * c) t) (fun i h => IsRangeIter h s₁.heap.objs.size (a + (i : Nat) * c) ((n : Int) - (i : Nat)) c) := (Walks.range hh _ a c n).bound
  refine block_T W hsz (fun i h st => ⟨_, st⟩) (fun i h h' o nw st e e' _ _ _ => by
    have st' : h.get? s₁.heap.objs.size = some _ := st
    show h'.get? s₁.heap.objs.size = some _
    rw [e', ← e]; exact st') hcell hkind hx (by show IsRangeIter _ _ _ _ _; rw [hn]; simpa using Heap.get?_push_size _ rfl) (fun b hb => ?_)
    (F.keeps fun _ _ e => Heap.get?_push_of_some _ e) (N.grown fun _ _ e => Heap.get?_push_of_some _ e) (Nat.ne_of_lt F.ns.lt) (next_is_new F) (fun p hp => Nat.ne_of_lt (Heap.lt_size (N p hp).1)) trivial (R _ ⟨_, rfl⟩) ?_
  · rw [List.mem_singleton.mp hb]
    show s₁.heap.objs.size < (s₁.heap.push _).objs.size
    rw [Heap.size_push]; exact Nat.lt_succ_self _
  · intro D C h' tk m' ys news' F' N' o1 hn hC₀ hD₀ hCL hDL hCD offC fin
    show wpAny _ A (assign (.Name y py) env (.ref D)) _ _ _
    refine wpAny_assign_Name (wpAny_storeName_local hy F'.ns (fun h₂ hn₂ hs₂ => ?_) hp)
    have hL₀ : h₀.get? env.locals = none := Heap.get?_none_of_le F'.above
    have F₂ : Fr h₀ env.locals h₂ (fun z => if z = y then some (.ref D) else m z) := ⟨hn₂, fun b o e => hs₂.extBut b o (fun q => by rw [q, hL₀] at e; cases e) (F'.keep b o e), F'.above⟩
    refine ⟨m', hn.sameBut hs₂ hCL, fun h'' hs'' => fin D h'' _ (F₂.change hs'' hCL hC₀) (fun p hp => ?_) o1⟩
    have z : h₂.get? p.1 = some p.2 := hs₂.extBut _ _ (N' p hp).2.1 (N' p hp).1
    refine ⟨hs''.extBut _ _ ?_ z, (N' p hp).2⟩
    rcases List.mem_cons.mp hp with rfl | hp
    · exact Ne.symm hCD
    · exact offC p hp

/-- the turns of a tested list comprehension by an invariant -/
theorem comp_inv_T {ct elt : Expr} {x : Str} {scope : Scope} {cl : List (Str × Addr)} {S : List (Addr × Obj) → Prop} {P : Nat → Value → Prop} {Fin : List Value → List (Addr × Obj) → Prop}
    (J : Nat → List Value → List (Addr × Obj) → Prop) (n : Nat)
    (turn : ∀ i ys news, i < n → J i ys news → ∀ v I oI C oC D m₂ h tk (E' : Value → Shared → Prop), P i v → NsObj oC m₂ → m₂ x = some v → Fr h₀ L h m → News h₀ L h ((I, oI) :: (C, oC) :: (D, lst ys) :: news) → Off3 I C D news → ((@Ne Nat I C) ∧ (@Ne Nat I D) ∧ (@Ne Nat C D)) →
      wpAny (model prog w) A (isTrue ct (compEnvC scope cl C env) (eval ct (compEnvC scope cl C env))) (fun ok s' => if ok = true then
        wpAny (model prog w) A (eval elt (compEnvC scope cl C env)) (CompEnd h₀ L m { s with heap := h, toks := tk } I oI C oC D (lst ys) S (fun y news' => J (i + 1) (ys ++ [y]) news')) E' s'
        else CompEnd h₀ L m { s with heap := h, toks := tk } I oI C oC D (lst ys) S (fun _ news' => J (i + 1) ys news') Value.none s') E' { s with heap := h, toks := tk })
    (done : ∀ ys news, J n ys news → Fin ys news) :
    ∀ k i ys news, i + k = n → J i ys news → CompRestT prog w A h₀ L m env ct elt x scope cl s S P Fin k i ys news := by
  intro k
  induction k with
  | zero =>
    intro i ys news hi hj
    rw [Nat.add_zero] at hi; subst hi
    exact CompRestT.zero (done ys news hj)
  | succ k ih =>
    intro i ys news hi hj
    refine CompRestT.succ fun v I oI C oC D m₂ h tk E' hP hC hx F N off ne => ?_
    refine wpAny_mono (turn i ys news (by omega) hj v I oI C oC D m₂ h tk E' hP hC hx F N off ne) (fun ok s' h' => ?_) fun _ _ e => e
    cases ok with
    | true =>
      simp only [if_true] at h' ⊢
      refine wpAny_mono h' (fun y s₂ h₂ => ?_) fun _ _ e => e
      obtain ⟨h₃, tk₃, news', e, F', N', o', S', j'⟩ := h₂
      exact ⟨h₃, tk₃, news', e, F', N', o', S', ih (i + 1) _ news' (by omega) j'⟩
    | false =>
      simp only [Bool.false_eq_true, if_false] at h' ⊢
      obtain ⟨h₃, tk₃, news', e, F', N', o', S', j'⟩ := h'
      exact ⟨h₃, tk₃, news', e, F', N', o', S', ih (i + 1) _ news' (by omega) j'⟩
/-- and of one without a test -/
theorem comp_inv_U {elt : Expr} {x : Str} {scope : Scope} {cl : List (Str × Addr)} {S : List (Addr × Obj) → Prop} {P : Nat → Value → Prop} {Fin : List Value → List (Addr × Obj) → Prop}
    (J : Nat → List Value → List (Addr × Obj) → Prop) (n : Nat)
    (turn : ∀ i ys news, i < n → J i ys news → ∀ v I oI C oC D m₂ h tk (E' : Value → Shared → Prop), P i v → NsObj oC m₂ → m₂ x = some v → Fr h₀ L h m → News h₀ L h ((I, oI) :: (C, oC) :: (D, lst ys) :: news) → Off3 I C D news → ((@Ne Nat I C) ∧ (@Ne Nat I D) ∧ (@Ne Nat C D)) →
      wpAny (model prog w) A (eval elt (compEnvC scope cl C env)) (CompEnd h₀ L m { s with heap := h, toks := tk } I oI C oC D (lst ys) S (fun y news' => J (i + 1) (ys ++ [y]) news')) E' { s with heap := h, toks := tk })
    (done : ∀ ys news, J n ys news → Fin ys news) :
    ∀ k i ys news, i + k = n → J i ys news → CompRest prog w A h₀ L m env elt x scope cl s S P Fin k i ys news := by
  intro k
  induction k with
  | zero =>
    intro i ys news hi hj
    rw [Nat.add_zero] at hi; subst hi
    exact CompRest.zero (done ys news hj)
  | succ k ih =>
    intro i ys news hi hj
    refine CompRest.succ fun v I oI C oC D m₂ h tk E' hP hC hx F N off ne => ?_
    refine wpAny_mono (turn i ys news (by omega) hj v I oI C oC D m₂ h tk E' hP hC hx F N off ne) (fun y s₂ h₂ => ?_) fun _ _ e => e
    obtain ⟨h₃, tk₃, news', e, F', N', o', S', j'⟩ := h₂
    exact ⟨h₃, tk₃, news', e, F', N', o', S', ih (i + 1) _ news' (by omega) j'⟩
end
/-- the octets at `b` and at `a` begin alike for three -/
def same3 (B : List UInt8) (b a : Nat) : Bool := (B.drop b).take 3 == (B.drop a).take 3
def backsI (B : List UInt8) (far : Int) (tr : Nat) (a : Nat) : List Int :=
  if a + 3 ≤ B.length then ((((List.range a).reverse.filter fun b => same3 B b a && decide ((a : Int) - b ≤ far))).map (Int.ofNat ·)).take tr else []
theorem slice3 {prog : Program} {w : World} {A : Around} {E : Value → Shared → Prop} {s : Shared} {value slice : PySem.Expr} {B : List UInt8} {t tl tu : Tok} {h₀ : Heap} {L : Addr} {m : PySem.Str → Option Value} {news : List (Addr × Obj)} {Q : Value → Shared → Prop} {lo hi : Int}
    (hF : Fr h₀ L s.heap m) (hN : News h₀ L s.heap news) (h0 : 0 ≤ lo) (h1 : hi = lo + 3) (h2 : hi ≤ B.length) (hz : B.length ≤ 20)
    (h : ∀ h' t' k, Fr h₀ L h' m → News h₀ L h' news → Q (.bytes ((B.drop lo.toNat).take 3).toArray t') { s with heap := h', toks := k })
    (hs : subscripted slice false (.bytes B.toArray t) (.ref s.heap.objs.size) = operate [.ref s.heap.objs.size, .bytes B.toArray t] (getItem (.bytes B.toArray t) (.ref s.heap.objs.size)) := by with_unfolding_all rfl)
    (ht : ∀ r, letTemporaryGo value (.bytes B.toArray t) r = pure () := by intro _; with_unfolding_all rfl) :
    wpAny (model prog w) A (subscriptTail value slice (.bytes B.toArray t) (.ref s.heap.objs.size)) Q E { s with heap := s.heap.push { cls := .type "slice", data := .fields #[.int lo tl, .int hi tu, .none] } } := by
  refine KBc.slice_K hF hN rfl (.int lo tl) (.int hi tu) (by rw [KBw.ints_length, List.size_toArray]; omega) (fun h' t' k F N _ => ?_) hs ht
  have e : KBy.picked B.toArray (some lo) (some hi) = ((B.drop lo.toNat).take 3).toArray := by
    rw [KBc.picked_eq]
    obtain ⟨n, rfl⟩ := Int.eq_ofNat_of_zero_le h0
    subst h1
    have e2 : ((n : Int) + 3) = ((n + 3 : Nat) : Int) := by omega
    have h3 : n + 3 ≤ B.length := by omega
    rw [e2]
    simp only [Option.elim, List.size_toArray, clipAt_nat, Int.toNat_natCast]
    rw [Nat.min_eq_left h3, Nat.min_eq_left (by omega : n ≤ B.length), Nat.add_sub_cancel_left]
  rw [e]
  exact h h' t' k F N
theorem rev_take {a i : Nat} (h : i < a) : (List.range a).reverse.take (i + 1) = (List.range a).reverse.take i ++ [a - 1 - i] := by
  rw [List.take_add_one, List.getElem?_reverse (by simpa using h), List.length_range, List.getElem?_range (by omega)]
  rfl
theorem down_small {a : Nat} (h : a ≤ 20) : Builtin.Range.small ((a : Int) - 1) (-1) (-1) = true :=
  (by decide : ∀ a : Fin 21, Builtin.Range.small (((a : Nat) : Int) - 1) (-1) (-1) = true) ⟨a, by omega⟩
theorem down_size {a : Nat} (h : a ≤ 20) : Builtin.Range.rangeSize ((a : Int) - 1) (-1) (-1) = ((a : Nat) : Int) :=
  (by decide : ∀ a : Fin 21, Builtin.Range.rangeSize (((a : Nat) : Int) - 1) (-1) (-1) = ((a : Nat) : Int)) ⟨a, by omega⟩
section
local macro_rules | `(tactic| walk_at "subscriptTail") => `(tactic| (k_here; (with_reducible show wpAny _ _ (subscriptTail _ _ (Value.bytes _ _) (Value.ref _)) _ _ _); k_dflt (refine' slice3 ?F ?N ?a ?b ?c ?d ?_; (case F => k_asm); (case N => k_asm); (case a => omega); (case b => omega); (case c => omega); (case d => omega); intro h' t' k F' N')))
variable {w : World} {h₀ : Heap} {mg mb : Str → Option Value} {p : Program} {loose : List Str} {mean : ExcName → Option Value} {s : Shared} {dp un : Nat} {fr : Option (List Env)} {gd : Option (List Code)} {Q E : Value → Shared → Prop}

theorem c_law_backs {B : List UInt8} {a : Nat} {far : Int} {tr : Nat} {t u v z : Tok} (X : (hd.heap_39 w.params).In h₀) (T : Top p loose mean mg mb h₀) (hst : h₀.StaysIn s.heap)
    (hB : B.length ≤ 20) (h1 : a ≤ B.length) (h2 : 0 ≤ far) (h3 : far ≤ 20) (h4 : tr ≤ 8) (hd : dp + 4 < recursionLimit) (hu : un + 40 < cLine)
    (hq : ∀ h' tk' l ws n', s.heap.StaysIn h' → s.heap.get? l = none → h'.get? l = some (PySem.W.listOf (List.toArray ws) n') → IntsAre ws (backsI B far tr a) → Q (.ref l) { s with heap := h', toks := tk' }) :
    wpAny (model PR w) (arnd dp un fr gd) (call (.ref 158) [.bytes B.toArray t, .int a u, .int far v, .int tr z] []) Q E s := by
  walk_at "my enterC"
  clear X T
  intro L' h₁ tk cells F N Y X T hL
  k_cells Y
  try dsimp only
  rename _ = Data.cell (bindC _ _ (fun _ => none) (Str.ofString "far")) => d1
  rename _ = Data.cell (bindC _ _ (fun _ => none) (Str.ofString "at")) => d2
  rename _ = Data.cell (bindC _ _ (fun _ => none) (Str.ofString "octets")) => d3
  replace d1 : _ = Data.cell (some (.int far v)) := d1
  replace d2 : _ = Data.cell (some (.int a u)) := d2
  replace d3 : _ = Data.cell (some (.bytes B.toArray t)) := d3
  have hsz := size_cast B
  replace F : ∃ m, m (Str.ofString "tries") = some (.int tr z) ∧ Fr s.heap L' h₁ m := ⟨_, rfl, F⟩
  obtain ⟨m, m1, F⟩ := F
  k_steps
  · have hlt : ¬ a + 3 ≤ B.length := by omega
    rename Fr _ _ _ _ => F
    rename News _ _ _ _ => N
    dsimp only
    refine hq _ _ _ [] 0 F.keep (N.fresh (.head _)) (N.get (.head _)) ?_
    unfold backsI
    rw [if_neg hlt]
    exact .nil
  have hle : a + 3 ≤ B.length := by omega
  refine unstop (Assign_ListComp_TR (F₀ := F) rfl (by with_unfolding_all rfl) (by with_unfolding_all rfl) (by decide) (by rfl) (by decide) (by rfl) (by rfl) (by rfl) ?_)
  k_steps
  rename IsRange _ _ _ _ _ _ _ _ => hrg
  rename Fr _ _ _ _ => F₁
  rename News _ _ _ _ => N₁
  refine unstop ⟨_, _, _, _, _, _, _, a, _, rfl, rfl, F₁, N₁, hrg, down_small (by omega), down_size (by omega), Nat.le_trans (show a ≤ 20 by omega) (by decide), ?_⟩
  rintro _ ⟨g, rfl⟩
  refine comp_inv_T (fun i ys news => news = [(L' + 1 + 1 + 1, _), (L' + 1 + 1, _), (L' + 1, _)] ∧ IntsAre ys ((((List.range a).reverse.take i).filter fun b => same3 B b a && decide ((a : Int) - b ≤ far)).map (Int.ofNat ·))) a ?turn ?done a 0 [] _ (by omega) ⟨rfl, .nil⟩
  case turn =>
    clear F₁ N₁ hrg
    rintro i ys news hi ⟨rfl, hys⟩ v I oI C oC D m₂ h tk E' ⟨_, tb, rfl⟩ hC hx F N off ne
    have e0 : (a : Int) - 1 + (i : Int) * -1 = ((a - 1 - i : Nat) : Int) := by omega
    k_steps
    · refine unstop (CompEnd.intro (by assumption) (by assumption) [(L' + 1 + 1 + 1, _), (L' + 1 + 1, _), (L' + 1, _)] (fun p hp => hp) off trivial ⟨rfl, ?_⟩)
      rw [rev_take hi, List.filter_append, List.map_append]
      have e1 : same3 B (a - 1 - i) a = true := by
        rename (_ == _) = true => hh
        rw [e0, Int.toNat_natCast, Int.toNat_natCast] at hh
        exact hh
      have e2 : (a : Int) - (a - 1 - i : Nat) ≤ far := e0 ▸ (by assumption)
      rw [List.filter_cons_of_pos (by rw [e1, decide_eq_true e2]; rfl)]
      rw [e0]
      exact ints_snoc hys _ _
    · refine unstop (CompEnd.intro (by assumption) (by assumption) [(L' + 1 + 1 + 1, _), (L' + 1 + 1, _), (L' + 1, _)] (fun p hp => hp) off trivial ⟨rfl, ?_⟩)
      rw [rev_take hi, List.filter_append, List.map_append]
      have e2 : ¬ (a : Int) - (a - 1 - i : Nat) ≤ far := e0 ▸ (by assumption)
      rw [List.filter_cons_of_neg (by rw [decide_eq_false e2, Bool.and_false]; exact Bool.false_ne_true)]
      simpa using hys
    · refine unstop (CompEnd.intro (by assumption) (by assumption) [(L' + 1 + 1 + 1, _), (L' + 1 + 1, _), (L' + 1, _)] (fun p hp => hp) off trivial ⟨rfl, ?_⟩)
      rw [rev_take hi, List.filter_append, List.map_append]
      have e1 : same3 B (a - 1 - i) a = false := by
        rename (_ == _) = false => hh
        rw [e0, Int.toNat_natCast, Int.toNat_natCast] at hh
        exact hh
      rw [List.filter_cons_of_neg (by rw [e1, Bool.false_and]; exact Bool.false_ne_true)]
      simpa using hys
  case done =>
    rintro ys news ⟨rfl, hys⟩
    rw [List.take_of_length_le (by simp)] at hys
    unfold FinA
    intro D h tk F N o1
    dsimp only
    have hyl : ys.length ≤ 20 := by
      rw [hys.length, List.length_map]
      have := List.length_filter_le (fun b => same3 B b a && decide ((a : Int) - b ≤ far)) (List.range a).reverse
      rw [List.length_reverse, List.length_range] at this
      omega
    k_steps
    rename Fr _ _ _ _ => F'
    rename News _ _ _ _ => N'
    rename IntsAre _ (List.take _ _) => hws
    dsimp only
    refine hq _ _ _ _ _ F'.keep (N'.fresh (.head _)) (N'.get (.head _)) ?_
    unfold backsI
    rw [if_pos hle]
    exact hws
end
example {M : PySem.Model} {A : PySem.Around} {t : PySem.Sem Unit} {Q : Unit → PySem.Shared → Prop} {E : PySem.Value → PySem.Shared → Prop} {s : PySem.Shared} (h : PySem.wpAny M A t Q E s) : PySem.wpAny M A t Q E s := by first | (walk1; fail) | exact h
open PyProof.Rows.LCg PyProof.Rows.LCt



def wayI (B : List UInt8) (far : Int) (mo : Nat) (tr : Nat) (a n : Nat) : Option (Int × Int) :=
  ((backsI B far tr a).find? fun b => decide (n ≤ comm B b.toNat a (min ((B.length : Int) - a) mo).toNat)).map fun b => ((n : Int), (a : Int) - b)
def waysI (B : List UInt8) (far : Int) (mo : Nat) (tr : Nat) (a : Nat) : List (Int × Int) := (List.range (mo - 2)).filterMap fun i => wayI B far mo tr a (3 + i)
theorem backsI_mem {B : List UInt8} {far : Int} {tr a : Nat} {b : Int} (h : b ∈ backsI B far tr a) : 0 ≤ b ∧ b < a := by
  unfold backsI at h
  split at h
  · obtain ⟨n, hn, rfl⟩ := List.mem_map.mp (List.mem_of_mem_take h)
    have := (List.mem_filter.mp hn).1
    rw [List.mem_reverse, List.mem_range] at this
    exact ⟨by simp, by simpa using this⟩
  · cases h
theorem backsI_length {B : List UInt8} {far : Int} {tr a : Nat} : (backsI B far tr a).length ≤ tr := by
  unfold backsI
  split
  · rw [List.length_take]; omega
  · simp
inductive JWays (B : List UInt8) (far : Int) (mo tr a : Nat) (L' l bl : Addr) (bws : List Value) (bn : Nat) (o2 o3 o4 : Obj) (i : Nat) (m' : Str → Option Value) (nw : List (Addr × Obj)) : Prop
  | mk (oc : Obj) (cv : Option Value) (ws : List Value) (n : Nat) (tl : List (Addr × Obj)) : (nw = (L' + 1 + 1 + 1 + 1, oc) :: (l, PySem.W.listOf (List.toArray ws) n) :: (bl, PySem.W.listOf (List.toArray bws) bn) :: (L' + 1 + 1 + 1, o2) :: (L' + 1 + 1, o3) :: (L' + 1, o4) :: tl) → (oc.data = .cell cv) → (PairsIn tl ws ((List.range i).filterMap fun i => wayI B far mo tr a (3 + i))) → ((∀ q ∈ tl, ∃ (d : Int × Int) (t u : Tok), q.2 = tup2 d.1 t d.2 u)) → (m' (Str.ofString "backs") = some (.ref bl)) → (m' (Str.ofString "found") = some (.ref l)) → JWays B far mo tr a L' l bl bws bn o2 o3 o4 i m' nw
section
variable {w : World} {h₀ : Heap} {mg mb : Str → Option Value} {p : Program} {loose : List Str} {mean : ExcName → Option Value} {s : Shared} {dp un : Nat} {fr : Option (List Env)} {gd : Option (List Code)} {Q E : Value → Shared → Prop}

theorem c_law_ways {B : List UInt8} {a mo : Nat} {far : Int} {tr : Nat} {t u v y z : Tok} (X : (hd.heap_39 w.params).In h₀) (T : Top p loose mean mg mb h₀) (hst : h₀.StaysIn s.heap)
    (hB : B.length ≤ 20) (h1 : a ≤ B.length) (h2 : 0 ≤ far) (h3 : far ≤ 20) (h4 : tr ≤ 8) (h5 : 3 ≤ mo) (h6 : mo ≤ 10) (hd : dp + 10 < recursionLimit) (hu : un + 100 < cLine)
    (hq : ∀ h' tk' l ws n' tl, s.heap.StaysIn h' → s.heap.get? l = none → h'.get? l = some (PySem.W.listOf (List.toArray ws) n') →
      (∀ q ∈ tl, h'.get? q.1 = some q.2 ∧ s.heap.get? q.1 = none ∧ q.2.cls = .type "tuple") → PairsIn tl ws (waysI B far mo tr a) → Q (.ref l) { s with heap := h', toks := tk' }) :
    wpAny (model PR w) (arnd dp un fr gd) (call (.ref 163) [.bytes B.toArray t, .int a u, .int far v, .int mo y, .int tr z] []) Q E s := by
  walk_at "my enterC"
  clear X T
  intro L' h₁ tk cells F N Y X T hL
  have hY := CellsAre.four Y
  obtain ⟨o1, o2, o3, o4, hE, d1, d2, d3, d4⟩ := hY
  subst hE
  clear Y
  try dsimp only
  replace d1 : o1.data = Data.cell none := d1
  replace d2 : o2.data = Data.cell (some (.int mo y)) := d2
  replace d3 : o3.data = Data.cell (some (.int a u)) := d3
  replace d4 : o4.data = Data.cell (some (.bytes B.toArray t)) := d4
  have hsz := size_cast B
  replace F : ∃ m, m (Str.ofString "far") = some (.int far v) ∧ m (Str.ofString "tries") = some (.int tr z) ∧ Fr s.heap L' h₁ m := ⟨_, rfl, rfl, F⟩
  obtain ⟨m, m1, m2, F⟩ := F
  k_steps
  refine unstop (c_law_backs X T F.keep hB (by omega) (by omega) (by omega) (by omega) (by walk_at "my room") (by walk_at "my room") ?_)
  intro h₂ tk₂ bl bws bn hst₂ hbl₁ hbl₂ hbi
  have hbl₁' := news_ne N hbl₁
  replace N := news_cons' F (news_after0 N hst₂) hbl₁ hbl₂
  replace F := fr_after0 F hst₂
  clear hst₂ hbl₁ hbl₂
  have hbc := hbl₁'
  k_steps
  rename Fr _ _ _ _ => F
  rename News _ _ _ _ => N
  rename (@LT.lt Nat _ bl _ ∧ _) => l1
  refine name_first N fun l hl => ?_
  subst hl
  generalize hps : backsI B far tr a = ps at hbi
  have hpsm : ∀ b ∈ ps, 0 ≤ b ∧ b < a := fun b hb => backsI_mem (hps ▸ hb)
  have hpl : bws.length ≤ 8 := by rw [hbi.length, ← hps]; exact Nat.le_trans backsI_length h4
  refine unstop (for_inv (h₀ := s.heap) (L := L') ?_)
  k_steps
  rename IsRange _ _ _ _ _ _ _ _ => hrg
  rename Fr _ _ _ _ => F
  rename News _ _ _ _ => N
  refine unstop (iter_rangeD (n := mo - 2) (J := JWays B far mo tr a L' l bl bws bn o2 o3 o4)
      rfl hrg (small_one (by omega) (by omega) (by omega) (by omega)) (by rw [rangeSize_one]; split <;> omega) F (news_sub N ?hsub) ⟨_, none, [], 0, [], rfl, d1, .nil, (fun _ h => nomatch h), by walk_at "my look", by walk_at "my look"⟩ ?hcl ?turn ?done)
  case hsub =>
    walk_at "my sub"
  case hcl =>
    rintro i m nw ⟨oc, cv, ws, n, tl, rfl, hoc, hpr, htl, _⟩ q hq ⟨hc, fs, hfs⟩
    simp only [List.mem_cons] at hq
    rcases hq with rfl | rfl | rfl | rfl | rfl | rfl | hq
    · rw [hoc] at hfs; cases hfs
    · cases hfs
    · cases hfs
    · rw [d2] at hfs; cases hfs
    · rw [d3] at hfs; cases hfs
    · rw [d4] at hfs; cases hfs
    · obtain ⟨d, t, u, e⟩ := htl q hq
      rw [e] at hfs; cases hfs
  case turn =>
    clear F N hrg
    rintro i ti h tk m nw o I hi ⟨oc, cv, ws, n, tl, rfl, hoc, hpr, htl, e1, e2⟩ ho F N hI QT hQT
    have hc1 : ∀ q ∈ (I, o) :: (l, PySem.W.listOf (List.toArray ws) n) :: (bl, PySem.W.listOf (List.toArray bws) bn) :: (L' + 1 + 1 + 1, o2) :: (L' + 1 + 1, o3) :: (L' + 1, o4) :: tl, q.1 ≠ L' + 1 + 1 + 1 + 1 := by
      intro q hq e
      have e' : @Eq Nat q.1 (L' + 1 + 1 + 1 + 1) := e
      simp only [List.mem_cons] at hq
      rcases hq with rfl | rfl | rfl | rfl | rfl | rfl | hq
      · exact hI _ (.head _) e.symm
      · dsimp only at e'; omega
      · exact hbl₁' (L' + 1 + 1 + 1 + 1, o1) (.head _) e.symm
      · dsimp only at e'; omega
      · dsimp only at e'; omega
      · dsimp only at e'; omega
      · obtain ⟨d, t', u', e2⟩ := htl q hq
        refine news_obj_ne N (a := q.1) (o := q.2) (b := L' + 1 + 1 + 1 + 1) (o' := oc) (.tail _ (.tail _ (.tail _ (.tail _ (.tail _ (.tail _ (.tail _ hq))))))) (.tail _ (.head _)) (fun e3 => ?_) e
        have e4 := congrArg Obj.data (e2.symm.trans e3)
        rw [hoc] at e4; cases e4
    replace N : News s.heap L' h ((L' + 1 + 1 + 1 + 1, oc) :: (I, o) :: (l, PySem.W.listOf (List.toArray ws) n) :: (bl, PySem.W.listOf (List.toArray bws) bn) :: (L' + 1 + 1 + 1, o2) :: (L' + 1 + 1, o3) :: (L' + 1, o4) :: tl) := news_sub N (by
      walk_at "my sub")
    refine wpAny_assign_Name (storeC F N hc1 rfl hoc ?_)
    clear F N
    intro h' o' F N hoc'
    k_steps
    refine unstop (Assign_ListComp_T (F₀ := F) rfl (by with_unfolding_all rfl) (by with_unfolding_all rfl) (by decide) (by rfl) (by decide) (by rfl) (by rfl) (by rfl) ?_)
    k_steps
    refine CompSrcT.ledger rfl F N (by k_mem) (by rw [List.size_toArray]; exact Nat.le_trans hpl (by decide)) ?_
    intro g'
    have hsz2 : bws.toArray.size = ps.length := by rw [List.size_toArray, hbi.length]
    refine comp_inv_T (fun j ys news => news = (L' + 1 + 1 + 1 + 1, o') :: (I, o) :: (l, PySem.W.listOf (List.toArray ws) n) :: (bl, PySem.W.listOf (List.toArray bws) bn) :: (L' + 1 + 1 + 1, o2) :: (L' + 1 + 1, o3) :: (L' + 1, o4) :: tl ∧
      IntsAre ys ((ps.take j).filter fun b => decide (3 + i ≤ comm B b.toNat a (min ((B.length : Int) - a) mo).toNat))) bws.toArray.size ?turn2 ?done2 _ 0 [] _ (by omega) ⟨rfl, .nil⟩
    case turn2 =>
      clear F N
      rintro j ys news hj ⟨rfl, hys⟩ vv J2 oJ C oC D m₂ h tk E' hvv hC hx F N off ne
      obtain ⟨b, tb, hb, rfl⟩ := ints_at hbi (by simpa using hvv)
      have hbm := hpsm b (List.mem_of_getElem? hb)
      k_steps
      refine unstop (c_law_common X T F.keep hB hbm.1 hbm.2 (by omega) (by omega) (by omega) (by walk_at "my room") (by walk_at "my room") ?_)
      intro h₄ tk₄ t₄ hst₄
      replace F := fr_after0 F hst₄
      replace N := news_after0 N hst₄
      clear hst₄
      rw [Int.toNat_natCast]
      generalize hcl : comm B b.toNat a (min ((B.length : Int) - a) mo).toNat = cv
      k_steps
      · refine unstop (CompEnd.intro F N _ (fun p hp => hp) off (.inr ⟨_, .tail _ (.tail _ (.tail _ (.head _))), rfl, _, rfl⟩) ⟨rfl, ?_⟩)
        rw [List.take_add_one, hb, Option.toList_some, List.filter_append, List.filter_cons_of_pos (by rw [hcl]; exact decide_eq_true (by omega))]
        exact ints_snoc hys _ _
      · refine unstop (CompEnd.intro F N _ (fun p hp => hp) off (.inr ⟨_, .tail _ (.tail _ (.tail _ (.head _))), rfl, _, rfl⟩) ⟨rfl, ?_⟩)
        rw [List.take_add_one, hb, Option.toList_some, List.filter_append, List.filter_cons_of_neg (by rw [hcl]; exact fun q => absurd (of_decide_eq_true q) (by omega)), List.filter_nil, List.append_nil]
        exact hys
    case done2 =>
      clear F N
      rintro ys news ⟨rfl, hys⟩
      rw [hsz2, List.take_length] at hys
      unfold FinA
      intro D h tk F N o1
      dsimp only
      have htln : ∀ q ∈ tl, @Ne Nat q.1 l := fun q hq => by
        obtain ⟨d, t', u', e⟩ := htl q hq
        exact news_cls_ne N (.tail _ (.tail _ (.tail _ (.tail _ (.tail _ (.tail _ (.tail _ (.tail _ hq)))))))) (.tail _ (.tail _ (.tail _ (.head _)))) (by rw [e]; simp)
      have hDl : @Ne Nat D l := Ne.symm o1.2.2.1
      have hIl : @Ne Nat I l := Ne.symm (hI (l, _) (.tail _ (.head _)))
      have hlen := hpr.length
      have hlen2 := List.length_filterMap_le (fun i => wayI B far mo tr a (3 + i)) (List.range i)
      rw [List.length_range] at hlen2
      k_steps
      · rename Fr _ _ _ _ => F
        rename News _ _ _ _ => N
        rename _ = true => hz
        refine hQT _ _ <| LEnd.intro F (news_sub N ?_) ⟨_, rfl, o', _, ws, n, tl, rfl, hoc', ?_, htl, by walk_at "my look", by walk_at "my look"⟩
        · walk_at "my sub"
        · rw [List.range_succ, List.filterMap_append, List.filterMap_cons]
          have : wayI B far mo tr a (3 + i) = none := by
            unfold wayI
            rw [hps, ← List.head?_filter, of_decide_eq_true hz]
            rfl
          rw [this]
          simpa using hpr
      · rename Fr _ _ _ _ => F
        rename News _ _ _ _ => N
        rename _ = false => hz
        refine name_first2 N fun ta oa ha hoa => ?_
        subst ha
        rw [← hoa] at N
        obtain ⟨b, hb⟩ : ∃ b, (ps.filter fun b => decide (3 + i ≤ comm B b.toNat a (min ((B.length : Int) - a) mo).toNat)).head? = some b := by
          cases hf : ps.filter fun b => decide (3 + i ≤ comm B b.toNat a (min ((B.length : Int) - a) mo).toNat) with
          | nil => rw [hf] at hz; exact absurd hz (by simp)
          | cons b r => exact ⟨b, rfl⟩
        have hway : wayI B far mo tr a (3 + i) = some (((3 + i : Nat) : Int), (a : Int) - b) := by
          unfold wayI
          rw [hps, ← List.head?_filter, hb]
          rfl
        obtain ⟨u', hoa'⟩ : ∃ u', oa = tup2 (3 + (i : Int) * 1) ti ((a : Int) - (ps.filter fun b => decide (3 + i ≤ comm B b.toNat a (min ((B.length : Int) - a) mo).toNat)).getD (Int.toNat 0) 0) u' := ⟨_, hoa⟩
        have e1 : (3 : Int) + (i : Int) * 1 = ((3 + i : Nat) : Int) := by omega
        have e2 : (ps.filter fun b => decide (3 + i ≤ comm B b.toNat a (min ((B.length : Int) - a) mo).toNat)).getD (Int.toNat 0) 0 = b := by
          cases hf : ps.filter fun b => decide (3 + i ≤ comm B b.toNat a (min ((B.length : Int) - a) mo).toNat) with
          | nil => rw [hf] at hb; cases hb
          | cons b' r => rw [hf] at hb; exact Option.some.inj hb
        rw [e1, e2] at hoa'
        refine hQT _ _ <| LEnd.intro F (news_sub N ?_) ⟨_, rfl, o', _, ws ++ [.ref ta], n + 1, (ta, oa) :: tl, rfl, hoc', ?_, ?_, by walk_at "my look", by walk_at "my look"⟩
        · walk_at "my sub"
        · rw [List.range_succ, List.filterMap_append, List.filterMap_cons, hway]
          exact (hpr.mono fun q hq => .tail _ hq).snoc ⟨ta, ti, u', rfl, by rw [hoa']; exact .head _⟩
        · intro q hq
          rcases List.mem_cons.mp hq with rfl | hq
          · exact ⟨(((3 + i : Nat) : Int), (a : Int) - b), ti, u', hoa'⟩
          · exact htl q hq
  case done =>
    clear F N hrg
    rintro h' tk m nw F N ⟨oc, cv, ws, n, tl, rfl, hoc, hpr, htl, e1, e2⟩
    k_steps
    dsimp only
    refine hq _ _ l ws n tl F.keep (N.fresh (.tail _ (.head _))) (N.get (.tail _ (.head _))) (fun q hq => ?_) hpr
    have := N q (List.Mem.tail _ (.tail _ (.tail _ (.tail _ (.tail _ (.tail _ hq))))))
    obtain ⟨d, t', u', e⟩ := htl q hq
    exact ⟨this.1, this.2.2, by rw [e]⟩
end
section
open PySem.Spec
def pd (d : Int × Int) : PyData := .tuple [.int d.1, .int d.2]
def pp : Part → PyData
  | .inl i => .int i
  | .inr d => pd d
theorem reads_pair {h : Heap} {tl : List (Addr × Obj)} {v : Value} {d : Int × Int} (hh : ∀ q ∈ tl, h.get? q.1 = some q.2) (x : PairIn tl v d) : Reads h v (pd d) [] := by
  obtain ⟨a, t, u, rfl, hm⟩ := x
  exact reads_tuple_at (hh _ hm) rfl rfl (.cons (.int _ _) (.cons (.int _ _) .nil))
theorem reads_part {h : Heap} {tl : List (Addr × Obj)} {v : Value} {d : Part} (hh : ∀ q ∈ tl, h.get? q.1 = some q.2) (x : PartIn tl v d) : Reads h v (pp d) [] := by
  cases d with
  | inl i => obtain ⟨t, rfl⟩ := x; exact .int _ _
  | inr d => exact reads_pair hh x
theorem reads_parts {h : Heap} {tl : List (Addr × Obj)} {ws : List Value} {ds : List Part} (hh : ∀ q ∈ tl, h.get? q.1 = some q.2) (x : PartsIn tl ws ds) : ReadsAll h ws (ds.map pp) [] := by
  induction x with
  | nil => exact .nil
  | cons a _ ih => exact .cons (reads_part hh a) ih
theorem reads_pairs {h : Heap} {tl : List (Addr × Obj)} {ws : List Value} {ds : List (Int × Int)} (hh : ∀ q ∈ tl, h.get? q.1 = some q.2) (x : PairsIn tl ws ds) : ReadsAll h ws (ds.map pd) [] := by
  induction x with
  | nil => exact .nil
  | cons a _ ih => exact .cons (reads_pair hh a) ih
theorem pd_eqv (d : Int × Int) : PyData.eqv (pd d) (pd d) = true := by simp [pd, PyData.eqv, PyData.eqvAll]
theorem pp_eqv (d : Part) : PyData.eqv (pp d) (pp d) = true := by
  cases d with
  | inl i => simp [pp, PyData.eqv]
  | inr d => exact pd_eqv d
theorem pd_eqvAll (ds : List (Int × Int)) : PyData.eqvAll (ds.map pd) (ds.map pd) = true := by
  induction ds with
  | nil => simp [PyData.eqvAll]
  | cons d ds ih => simp [PyData.eqvAll, pd_eqv, ih]
theorem pp_eqvAll (ds : List Part) : PyData.eqvAll (ds.map pp) (ds.map pp) = true := by
  induction ds with
  | nil => simp [PyData.eqvAll]
  | cons d ds ih => simp [PyData.eqvAll, pp_eqv, ih]
theorem pd_shaped (d : Int × Int) : SeqAt.shaped (pd d) = true := by simp [pd, SeqAt.shaped, PyData.canLay0, PyData.canLayAll0, PyData.depth, PyData.depthAll]
theorem pp_lay (ds : List Part) : PyData.canLayAll0 (ds.map pp) = true ∧ PyData.depthAll (ds.map pp) ≤ 1 := by
  induction ds with
  | nil => simp [PyData.canLayAll0, PyData.depthAll]
  | cons d ds ih => cases d <;> simp [pp, pd, PyData.canLayAll0, PyData.canLay0, PyData.depthAll, PyData.depth, ih]
theorem pd_lay (ds : List (Int × Int)) : PyData.canLayAll0 (ds.map pd) = true ∧ PyData.depthAll (ds.map pd) ≤ 1 := by
  induction ds with
  | nil => simp [PyData.canLayAll0, PyData.depthAll]
  | cons d ds ih => simp [pd, PyData.canLayAll0, PyData.canLay0, PyData.depthAll, PyData.depth, ih]
theorem pp_shaped (ds : List Part) : SeqAt.shaped (.list (ds.map pp)) = true := by
  have := pp_lay ds
  simp only [SeqAt.shaped, PyData.canLay0, PyData.depth, this.1, Bool.true_and]
  exact decide_eq_true (by omega)
theorem pds_shaped (ds : List (Int × Int)) : SeqAt.shaped (.list (ds.map pd)) = true := by
  have := pd_lay ds
  simp only [SeqAt.shaped, PyData.canLay0, PyData.depth, this.1, Bool.true_and]
  exact decide_eq_true (by omega)
section
variable {prog : Program} {w : World} {A : Around} {E : Value → Shared → Prop} {s : Shared} {a b : Addr} {tl tl' : List (Addr × Obj)} {xs ys : List Value} {n n' : Nat} {Q : Value → Shared → Prop}
theorem parts_eq {ds : List Part} (ha : s.heap.get? a = some (PySem.W.listOf (List.toArray xs) n)) (hb : s.heap.get? b = some (PySem.W.listOf (List.toArray ys) n')) (h1 : ∀ q ∈ tl, s.heap.get? q.1 = some q.2) (h2 : ∀ q ∈ tl', s.heap.get? q.1 = some q.2)
    (x : PartsIn tl xs ds) (y : PartsIn tl' ys ds) (hu : A.units + 64 < cLine) (h : Q (.bool true) s) : wpAny (model prog w) A (compareOp .Eq (.ref a) (.ref b)) Q E s :=
  eq_dataH (reads_list_at ha rfl rfl (reads_parts h1 x)) (reads_list_at hb rfl rfl (reads_parts h2 y)) (pp_shaped ds) (pp_shaped ds) hu (by rw [PyData.eqv, pp_eqvAll]; exact h)
theorem pairs_ne {ds : List (Int × Int)} (ha : s.heap.get? a = some (PySem.W.listOf (List.toArray xs) n)) (hb : s.heap.get? b = some (PySem.W.listOf (List.toArray ys) n')) (h1 : ∀ q ∈ tl, s.heap.get? q.1 = some q.2) (h2 : ∀ q ∈ tl', s.heap.get? q.1 = some q.2)
    (x : PairsIn tl xs ds) (y : PairsIn tl' ys ds) (hu : A.units + 64 < cLine) (h : Q (.bool false) s) : wpAny (model prog w) A (compareOp .NotEq (.ref a) (.ref b)) Q E s :=
  ne_dataH (reads_list_at ha rfl rfl (reads_pairs h1 x)) (reads_list_at hb rfl rfl (reads_pairs h2 y)) (pds_shaped ds) (pds_shaped ds) hu (by rw [PyData.eqv, pd_eqvAll]; exact h)
theorem pair_ne {d : Int × Int} {v v' : Value} (h1 : ∀ q ∈ tl, s.heap.get? q.1 = some q.2) (h2 : ∀ q ∈ tl', s.heap.get? q.1 = some q.2) (x : PairIn tl v d) (y : PairIn tl' v' d) (hu : A.units + 64 < cLine) (h : Q (.bool false) s) :
    wpAny (model prog w) A (compareOp .NotEq v v') Q E s :=
  ne_dataH (reads_pair h1 x) (reads_pair h2 y) (pd_shaped d) (pd_shaped d) hu (by rw [pd_eqv]; exact h)
end
end
section
open PyProof.Rows.LCg PyProof.Rows.LCt
def lastI (B : List UInt8) (far : Int) (mo tr a : Nat) : Int × Int := ((0, 0) :: waysI B far mo tr a).getLast (by simp)
theorem three (B : List UInt8) {b : Nat} (h : b + 3 ≤ B.length) : (B.drop b).take 3 = [B.getD b 0, B.getD (b + 1) 0, B.getD (b + 2) 0] := by
  have h0 : b < B.length := by omega
  have h1 : b + 1 < B.length := by omega
  have h2 : b + 2 < B.length := by omega
  rw [List.drop_eq_getElem_cons h0, List.take_succ_cons, List.drop_eq_getElem_cons h1, List.take_succ_cons, List.drop_eq_getElem_cons h2, List.take_succ_cons, List.take_zero]
  simp [List.getD, h0, h1, h2]
theorem key_inj {x y z x' y' z' : UInt8} : ((x.toNat : Int) + 256 * (y.toNat : Int) + 65536 * (z.toNat : Int) = (x'.toNat : Int) + 256 * (y'.toNat : Int) + 65536 * (z'.toNat : Int)) ↔ (x = x' ∧ y = y' ∧ z = z') := by
  have hx := x.toNat_lt; have hy := y.toNat_lt; have hz := z.toNat_lt
  have hx' := x'.toNat_lt; have hy' := y'.toNat_lt; have hz' := z'.toNat_lt
  constructor
  · intro h
    refine ⟨UInt8.toNat.inj ?_, UInt8.toNat.inj ?_, UInt8.toNat.inj ?_⟩ <;> omega
  · rintro ⟨rfl, rfl, rfl⟩; rfl
theorem key_same {B : List UInt8} {a b : Nat} (ha : a + 3 ≤ B.length) (hb : b + 3 ≤ B.length) : same3 B b a = decide (keyI B (b : Int) = keyI B (a : Int)) := by
  have e : ∀ i : Nat, ((i : Int) + 1).toNat = i + 1 := fun i => by omega
  have e2 : ∀ i : Nat, ((i : Int) + 2).toNat = i + 2 := fun i => by omega
  unfold same3 keyI byteI
  rw [three B ha, three B hb, e, e, e2, e2, Int.toNat_natCast, Int.toNat_natCast]
  rw [Bool.eq_iff_iff, decide_eq_true_iff, key_inj]
  simp
theorem walk_eq {B : List UInt8} {far : Int} {a : Nat} (ha : a + 3 ≤ B.length) : ∀ k, k ≤ a → ∀ n, walkB B a far n (lastAt B k (keyI B a)) =
    ((((List.range k).reverse.filter fun b => same3 B b a && decide ((a : Int) - b ≤ far))).map (Int.ofNat ·)).take n
  | 0, _, n => by cases n <;> simp [walkB, lastAt]
  | k + 1, hk, n => by
    have hk3 : k + 3 ≤ B.length := by omega
    have ih := walk_eq (far := far) ha k (by omega)
    rw [List.range_succ, List.reverse_append, List.reverse_singleton, List.singleton_append]
    by_cases hkey : keyI B (k : Int) = keyI B (a : Int)
    · have hl : lastAt B (k + 1) (keyI B a) = k := by rw [lastAt, if_pos ⟨hk3, hkey⟩]
      have hp : prevI B k = lastAt B k (keyI B a) := by rw [prevI, if_pos hk3, hkey]
      rw [hl]
      by_cases hf : (a : Int) - k ≤ far
      · rw [List.filter_cons_of_pos (by rw [key_same ha hk3]; simp [hkey, hf]), List.map_cons]
        cases n with
        | zero => simp [walkB]
        | succ n =>
          rw [walkB, if_pos ⟨Int.natCast_nonneg k, hf⟩, Int.toNat_natCast, hp, ih n, List.take_succ_cons]; rfl
      · have hnil : (k :: (List.range k).reverse).filter (fun b => same3 B b a && decide ((a : Int) - b ≤ far)) = [] := by
          rw [List.filter_eq_nil_iff]
          intro b hb
          have hb' : b ≤ k := by
            rcases List.mem_cons.mp hb with rfl | hb
            · exact Nat.le_refl _
            · simp at hb; omega
          have : ¬ ((a : Int) - b ≤ far) := by omega
          simp [this]
        rw [hnil]
        cases n with
        | zero => simp [walkB]
        | succ n => rw [walkB, if_neg (fun h => hf h.2)]; simp
    · rw [lastAt, if_neg (fun h => hkey h.2), ih n, List.filter_cons_of_neg (by rw [key_same ha hk3]; simp [hkey])]
/-- the earlier places are those with the same three octets -/
theorem places_eq {B : List UInt8} {far : Int} {tr a : Nat} (h : a ≤ B.length) (hB : B.length ≤ 20) (h0 : 0 ≤ far) : placesI B a a far tr = backsI B far tr a := by
  unfold placesI backsI
  by_cases ha : a + 3 ≤ B.length
  · rw [if_pos (by omega), if_pos ha, walk_eq ha a (Nat.le_refl _)]
  · rw [if_neg (by omega), if_neg ha]
theorem comm_same (B : List UInt8) : ∀ (k b a j : Nat), j < comm B b a k → B.getD (a + j) 0 = B.getD (b + j) 0
  | 0, _, _, j, h => absurd h (by rw [comm]; omega)
  | k + 1, b, a, j, h => by
    rw [comm] at h
    split at h
    · rename_i e
      cases j with
      | zero => exact e.symm
      | succ j =>
        have := comm_same B k (b + 1) (a + 1) j (by omega)
        rw [show a + (j + 1) = a + 1 + j by omega, show b + (j + 1) = b + 1 + j by omega]; exact this
    · omega
/-- how far the place reaches -/
abbrev reachI (B : List UInt8) (a mo : Nat) (b : Int) : Nat := comm B b.toNat a (min ((B.length : Int) - a) mo).toNat
theorem fm_congr {α β : Type} {f g : α → Option β} : ∀ {l : List α}, (∀ x ∈ l, f x = g x) → l.filterMap f = l.filterMap g
  | [], _ => rfl
  | x :: l, h => by rw [List.filterMap_cons, List.filterMap_cons, h x (.head _), fm_congr fun y hy => h y (.tail _ hy)]
theorem mbl_fold {B : List UInt8} {a mo : Nat} (ps : List Int) : ∀ (k : Nat) (out : List (Int × Int)) (M : Nat), k ≤ M → (∀ b, reachI B a mo b ≤ M) →
    (ps.foldl (stepML B a mo) (k, out)).2 = out ++ (List.range (M - k)).filterMap fun j => (ps.find? fun b => decide (k + 1 + j ≤ reachI B a mo b)).map fun b => (((k + 1 + j : Nat) : Int), (a : Int) - b) := by
  induction ps with
  | nil => intro k out M _ _; simp
  | cons b r ih =>
    intro k out M hk hM
    have hc := hM b
    rw [List.foldl_cons]
    have hs : stepML B a mo (k, out) b = (max k (reachI B a mo b), out ++ (List.range (reachI B a mo b - k)).map fun j => (((k + 1 + j : Nat) : Int), (a : Int) - b)) := by
      simp [stepML, reachI]
    rw [hs, ih _ _ M (Nat.max_le.mpr ⟨hk, hc⟩) hM, List.append_assoc]
    congr 1
    rw [max_split hk hc, List.range_add, List.filterMap_append, List.filterMap_map]
    congr 1
    · rw [← List.filterMap_eq_map]
      refine fm_congr fun j hj => ?_
      have : k + 1 + j ≤ reachI B a mo b := by simp at hj; omega
      simp [List.find?_cons, this]
    · refine fm_congr fun j hj => ?_
      have h2 : k + 1 + (reachI B a mo b - k + j) = max k (reachI B a mo b) + 1 + j := by
        rw [max_add, Nat.add_right_comm k 1, Nat.add_right_comm _ 1 j, Nat.add_assoc k (reachI B a mo b - k) j]
      have h1 : ¬ (k + 1 + (reachI B a mo b - k + j) ≤ reachI B a mo b) := by
        rw [h2]; exact Nat.not_le_of_lt (Nat.lt_of_lt_of_le (Nat.lt_succ_of_le (Nat.le_max_right _ _)) (Nat.le_add_right _ _))
      simp only [Function.comp]
      rw [List.find?_cons, decide_eq_false h1, h2]
theorem ways_eq {B : List UInt8} {far : Int} {mo tr a : Nat} (h : a ≤ B.length) (hB : B.length ≤ 20) (h0 : 0 ≤ far) (h3 : 3 ≤ mo) : mbl B a mo (placesI B a a far tr) = waysI B far mo tr a := by
  rw [places_eq h hB h0, mbl, mbl_fold _ 2 [] mo (by omega) (fun b => Nat.le_trans (comm_le _ _ _ _) (by omega)), List.nil_append]
  rfl
theorem best_fold {B : List UInt8} {a mo : Nat} (ps : List Int) : ∀ (l : Nat) (d : Int) (k : Nat) (out : List (Int × Int)), k = max 2 l → out.getLast?.getD (0, 0) = (if 3 ≤ l then ((l : Int), d) else (0, 0)) →
    (ps.foldl (stepML B a mo) (k, out)).2.getLast?.getD (0, 0) = (if 3 ≤ (ps.foldl (stepMA B a mo) ((l : Int), d)).1 then ps.foldl (stepMA B a mo) ((l : Int), d) else (0, 0)) := by
  induction ps with
  | nil =>
    intro l d k out _ h
    rw [List.foldl_nil, List.foldl_nil, h]
    by_cases h3 : 3 ≤ l
    · exact (if_pos h3).trans (if_pos (show (3 : Int) ≤ (l : Int) from Int.ofNat_le.mpr h3)).symm
    · exact (if_neg h3).trans (if_neg (show ¬ (3 : Int) ≤ (l : Int) from fun q => h3 (Int.ofNat_le.mp q))).symm
  | cons b r ih =>
    intro l d k out hk h
    rw [List.foldl_cons, List.foldl_cons]
    have hs : stepML B a mo (k, out) b = (max k (reachI B a mo b), out ++ (List.range (reachI B a mo b - k)).map fun j => (((k + 1 + j : Nat) : Int), (a : Int) - b)) := by
      simp [stepML, reachI]
    have hs2 : stepMA B a mo ((l : Int), d) b = if l < reachI B a mo b then (((reachI B a mo b : Nat) : Int), (a : Int) - b) else ((l : Int), d) := by
      simp [stepMA, reachI]
    rw [hs, hs2]
    generalize reachI B a mo b = c
    by_cases hlc : l < c
    · rw [if_pos hlc]
      refine ih c _ _ _ (by rw [hk, Nat.max_assoc, Nat.max_eq_right (Nat.le_of_lt hlc)]) ?_
      by_cases h3 : 3 ≤ c
      · have hkc : k < c := by rw [hk]; exact Nat.max_lt.mpr ⟨h3, hlc⟩
        obtain ⟨n, hn⟩ := Nat.exists_eq_add_of_lt hkc
        rw [if_pos h3, show c - k = n + 1 by rw [hn, Nat.add_assoc, Nat.add_sub_cancel_left], List.range_succ, List.map_append, ← List.append_assoc, List.map_singleton, List.getLast?_append, hn, Nat.add_right_comm k 1 n]
        rfl
      · have hck : c ≤ k := by rw [hk]; exact Nat.le_trans (Nat.le_of_lt_succ (Nat.lt_of_not_le h3)) (Nat.le_max_left _ _)
        rw [Nat.sub_eq_zero_of_le hck, if_neg h3, List.range_zero, List.map_nil, List.append_nil, h, if_neg fun q => h3 (Nat.le_trans q (Nat.le_of_lt hlc))]
    · have hck : c ≤ k := by rw [hk]; exact Nat.le_trans (Nat.le_of_not_lt hlc) (Nat.le_max_right _ _)
      rw [if_neg hlc]
      refine ih l _ _ _ (by rw [Nat.max_eq_left hck, hk]) ?_
      rw [Nat.sub_eq_zero_of_le hck, List.range_zero, List.map_nil, List.append_nil, h]
theorem best_eq {B : List UInt8} {far : Int} {mo tr a : Nat} (h : a ≤ B.length) (hB : B.length ≤ 20) (h0 : 0 ≤ far) (h3 : 3 ≤ mo) : bestI B far mo tr a = lastI B far mo tr a := by
  have e : lastI B far mo tr a = (waysI B far mo tr a).getLast?.getD (0, 0) := by
    have q : ∀ l : List (Int × Int), ∀ hl, ((0, 0) :: l).getLast hl = l.getLast?.getD (0, 0) := fun l => by
      cases l with
      | nil => intro _; rfl
      | cons x r => intro hl; rw [List.getLast_cons (by simp), List.getLast?_eq_some_getLast (by simp)]; rfl
    exact q _ _
  rw [e, ← ways_eq h hB h0 h3]
  unfold bestI matchI mbl
  exact (best_fold _ 0 0 2 [] rfl rfl).symm
theorem match_fold {B : List UInt8} {a mo : Nat} (ps : List Int) : ∀ st : Int × Int, (ps.foldl (stepMA B a mo) st) = st ∨ ∃ b ∈ ps, (ps.foldl (stepMA B a mo) st) = ((reachI B a mo b : Int), (a : Int) - b) := by
  induction ps with
  | nil => intro st; exact .inl rfl
  | cons b r ih =>
    intro st
    rw [List.foldl_cons]
    rcases ih (stepMA B a mo st b) with e | ⟨b', hb', e⟩
    · rw [e]
      unfold stepMA
      split
      · exact .inr ⟨b, .head _, by simp [reachI]⟩
      · exact .inl rfl
    · exact .inr ⟨b', .tail _ hb', e⟩
theorem best_form (B : List UInt8) (far : Int) (mo tr a : Nat) : bestI B far mo tr a = (0, 0) ∨ ∃ b ∈ placesI B a a far tr, bestI B far mo tr a = ((reachI B a mo b : Int), (a : Int) - b) := by
  unfold bestI matchI
  split
  · rcases match_fold (B := B) (a := a) (mo := mo) (placesI B a a far tr) (0, 0) with e | e
    · exact .inl e
    · exact .inr e
  · exact .inl rfl
theorem reach_le {B : List UInt8} {a mo n : Nat} {b : Int} (h : a + n = B.length) : reachI B a mo b ≤ n :=
  Nat.le_trans (comm_le _ _ _ _) (Int.toNat_le.mpr (Int.le_trans (Int.min_le_left _ _) (by omega)))
theorem best_bound {B : List UInt8} {far : Int} {mo tr a : Nat} (h : a ≤ B.length) (h3 : 3 ≤ mo) : 0 ≤ (bestI B far mo tr a).1 ∧ a + (bestI B far mo tr a).1.toNat ≤ B.length := by
  rcases best_form B far mo tr a with e | ⟨b, _, e⟩
  · rw [e]; exact ⟨Int.le_refl _, h⟩
  · rw [e]
    obtain ⟨n, hn⟩ := Nat.exists_eq_add_of_le h
    exact ⟨Int.natCast_nonneg _, by rw [Int.toNat_natCast, hn]; exact Nat.add_le_add_left (reach_le hn.symm) a⟩
theorem parse_from {B : List UInt8} {far : Int} {mo tr : Nat} (hB : B.length ≤ 20) (h0 : 0 ≤ far) (h3 : 3 ≤ mo) : ∀ n a, a + n = B.length → Parse B a (findI B far mo tr a) := by
  intro n
  induction n using Nat.strongRecOn with
  | _ n ih =>
    intro a ha
    rw [findI]
    by_cases hlt : a < B.length
    · rw [if_pos hlt]
      by_cases hb : 0 < (bestI B far mo tr a).1
      · rw [if_pos hb]
        rcases best_form B far mo tr a with e | ⟨b, hm, e⟩
        · rw [e] at hb; simp at hb
        · rw [places_eq (by omega) hB h0] at hm
          obtain ⟨b0, b1⟩ := backsI_mem hm
          obtain ⟨b, rfl⟩ := Int.eq_ofNat_of_zero_le b0
          have hle := reach_le (mo := mo) (b := (b : Int)) ha
          have hbn : b < a := Int.ofNat_lt.mp b1
          have hsame : ∀ j, j < reachI B a mo (b : Int) → B.getD (a + j) 0 = B.getD (b + j) 0 := fun j hj => comm_same B _ b a j hj
          rw [e] at hb ⊢
          have hpos : 0 < reachI B a mo (b : Int) := Int.ofNat_lt.mp hb
          generalize reachI B a mo (b : Int) = c at hle hsame hpos
          rw [Int.toNat_natCast, show ((a : Int) - (b : Int)) = ((a - b : Nat) : Int) from (Int.ofNat_sub (Nat.le_of_lt hbn)).symm]
          obtain ⟨r, hr⟩ := Nat.exists_eq_add_of_le hle
          have har : a + c + r = B.length := by rw [Nat.add_assoc, ← hr]; exact ha
          refine .pair (Nat.sub_pos_of_lt hbn) (Nat.sub_le _ _) (har ▸ Nat.le_add_right _ _) (fun j hj => ?_) (ih r (by rw [hr]; exact Nat.lt_add_of_pos_left hpos) _ har)
          rw [hsame j hj, show a + j - (a - b) = b + j by omega]
      · rw [if_neg hb]
        exact .oct hlt (ih (n - 1) (by omega) _ (by omega))
    · rw [if_neg hlt, show a = B.length by omega]
      exact .nil
theorem parse_find {B : List UInt8} {far : Int} {mo tr : Nat} (hB : B.length ≤ 20) (h0 : 0 ≤ far) (h3 : 3 ≤ mo) : Parse B 0 (findI B far mo tr 0) := parse_from hB h0 h3 B.length 0 (by omega)
end
section
section
variable {prog : Program} {w : World} {A : Around} {E : Value → Shared → Prop} {s : Shared} {h₀ : Heap} {L : Addr} {m : Str → Option Value} {news : List (Addr × Obj)}
theorem add_lists_N {l b : Addr} {vs ws : List Value} {Q : Value → Shared → Prop} (F : Fr h₀ L s.heap m) (N : News h₀ L s.heap news) (hl : s.heap.IsList l vs.toArray) (hb : s.heap.IsList b ws.toArray)
    (h : ∀ h' (a : Addr), (∀ q ∈ news, @LT.lt Nat _ q.1 a) → Fr h₀ L h' m → News h₀ L h' ((a, PySem.W.listOf (List.toArray (vs ++ ws)) 0) :: news) → Q (.ref a) { s with heap := h' })
    (hsz : vs.length + ws.length ≤ sizeLine) :
    wpAny (model prog w) A (binaryOp .Add (.ref l) (.ref b)) Q E s :=
  add_lists F N hl hb (fun h' F' N' => h h' s.heap.objs.size (fun q hq => Heap.lt_size (N q hq).1) F' N') hsz
theorem last_news {a : Addr} {vs : List Value} {n : Nat} {u : Tok} {v : Value} {value slice : Expr} {Q : Value → Shared → Prop}
    (N : News h₀ L s.heap news) (hm : (a, PySem.W.listOf (List.toArray vs) n) ∈ news) (hv : vs.getLast? = some v) (h : Q v s)
    (hs : subscripted slice false (.ref a) (.int (-1) u) = operate [.ref a, .int (-1) u] (getItem (.ref a) (.int (-1) u)) := by with_unfolding_all rfl) :
    wpAny (model prog w) A (subscriptTail value slice (.ref a) (.int (-1) u)) Q E s := by
  have hL : s.heap.IsList a (List.toArray vs) := ⟨_, N.get hm, rfl, n, rfl⟩
  have hne : vs.length ≠ 0 := fun e => by rw [List.length_eq_zero_iff.mp e] at hv; cases hv
  refine tail_any hL.typeIs slot_list_getitem.lookup (wpAny_getItem_list_neg hL (by omega) (by rw [List.size_toArray]; omega) (by omega) ?_ h) hs
  rw [List.size_toArray, show ((-1 : Int) + vs.length).toNat = vs.length - 1 by omega]
  rw [List.getLast?_eq_getElem?] at hv
  simpa using hv
end
theorem PairsIn.last {tl : List (Addr × Obj)} {ws : List Value} {ds : List (Int × Int)} (h : PairsIn tl ws ds) (hne : ds ≠ []) : ∃ v, ws.getLast? = some v ∧ PairIn tl v (ds.getLast hne) := by
  induction h with
  | nil => exact absurd rfl hne
  | @cons v d ws ds hv hr ih =>
    cases hr with
    | nil => exact ⟨v, rfl, hv⟩
    | @cons v2 d2 ws2 ds2 hv2 hr2 =>
      obtain ⟨x, e, hx⟩ := ih (by simp)
      exact ⟨x, by rw [List.getLast?_cons_cons]; exact e, by rw [List.getLast_cons (by simp)]; exact hx⟩
/-- the last of the ways, behind the pair of noughts -/
theorem last_pair {tl : List (Addr × Obj)} {z : Addr} {t u : Tok} {ws : List Value} {B : List UInt8} {far : Int} {mo tr a : Nat} (h : PairsIn tl ws (waysI B far mo tr a)) :
    ∃ va vt vu, ([Value.ref z] ++ ws).getLast? = some (.ref va) ∧ (va, tup2 (lastI B far mo tr a).1 vt (lastI B far mo tr a).2 vu) ∈ (z, tup2 0 t 0 u) :: tl := by
  obtain ⟨v, e, va, vt, vu, rfl, hm⟩ := PairsIn.last (tl := (z, tup2 0 t 0 u) :: tl) (.cons (v := .ref z) (d := (0, 0)) ⟨z, t, u, rfl, .head _⟩ (h.mono fun q hq => .tail _ hq)) (List.cons_ne_nil _ _)
  exact ⟨va, vt, vu, e, hm⟩
theorem pair_ne2 {prog : Program} {w : World} {A : Around} {E : Value → Shared → Prop} {s : Shared} {Q : Value → Shared → Prop} {a b : Addr} {d : Int × Int} {t u t' u' : Tok}
    (h1 : s.heap.get? a = some (tup2 d.1 t d.2 u)) (h2 : s.heap.get? b = some (tup2 d.1 t' d.2 u')) (hu : A.units + 64 < cLine) (h : Q (.bool false) s) :
    wpAny (model prog w) A (compareOp .NotEq (.ref a) (.ref b)) Q E s :=
  pair_ne (tl := [(a, tup2 d.1 t d.2 u)]) (tl' := [(b, tup2 d.1 t' d.2 u')]) (d := d) (fun q hq => by rw [List.mem_singleton.mp hq]; exact h1) (fun q hq => by rw [List.mem_singleton.mp hq]; exact h2)
    ⟨a, t, u, rfl, .head _⟩ ⟨b, t', u', rfl, .head _⟩ hu h
/-- the same, told from the ledger -/
theorem last_pair_N {g h : Heap} {L : Addr} {x y : Addr × Obj} {z : Addr} {t u : Tok} {rest tl : List (Addr × Obj)} {ws : List Value} {B : List UInt8} {far : Int} {mo tr a : Nat}
    (N : News g L h (x :: y :: (z, { cls := .type "tuple", data := .seq #[.int 0 t, .int 0 u] }) :: rest)) (h : PairsIn tl ws (waysI B far mo tr a)) :
    ∃ va vt vu, ([Value.ref z] ++ ws).getLast? = some (.ref va) ∧ (va, tup2 (lastI B far mo tr a).1 vt (lastI B far mo tr a).2 vu) ∈ (z, tup2 0 t 0 u) :: tl := last_pair h
theorem pairs_at {tl : List (Addr × Obj)} {ws : List Value} {ds : List (Int × Int)} (h : PairsIn tl ws ds) : ∀ {i : Nat} {d : Int × Int}, ds[i]? = some d → ∃ x t u, ws[i]? = some (.ref x) ∧ (x, tup2 d.1 t d.2 u) ∈ tl := by
  induction h with
  | nil => intro i d e; simp at e
  | @cons v d0 ws ds hv hr ih =>
    intro i d e
    cases i with
    | zero =>
      obtain ⟨x, t, u, rfl, hm⟩ := hv
      simp at e; subst e
      exact ⟨x, t, u, rfl, hm⟩
    | succ i => simp only [List.getElem?_cons_succ] at e ⊢; exact ih e
theorem PairsIn.more {tl tl' : List (Addr × Obj)} {ws : List Value} {f : Nat → Int × Int} {i : Nat} {d : Int × Int} {va : Addr} {t u : Tok} (h : PairsIn tl ws ((List.range i).map f)) (hs : ∀ q ∈ tl, q ∈ tl') (hd : f i = d) (hm : (va, tup2 d.1 t d.2 u) ∈ tl') :
    PairsIn tl' (ws ++ [.ref va]) ((List.range (i + 1)).map f) := by
  rw [List.range_succ, List.map_append, List.map_singleton, hd]
  exact (h.mono hs).snoc ⟨va, t, u, rfl, hm⟩
theorem ex_both {α : Type} {p q : α → Prop} {a : α} (h : p a) (g : q a) : ∃ a, p a ∧ q a := ⟨a, h, g⟩
theorem fn_139 (w : World) : ∃ o, (hd.heap_39 w.params).lookup 139 = some o ∧ ∃ fd, o.data = .func fd := by
  refine' ex_both ?h ?g
  case h => k_dflt k_is
  case g => exact ⟨_, rfl⟩
end
example {M : PySem.Model} {A : PySem.Around} {t : PySem.Sem Unit} {Q : Unit → PySem.Shared → Prop} {E : PySem.Value → PySem.Shared → Prop} {s : PySem.Shared} (h : PySem.wpAny M A t Q E s) : PySem.wpAny M A t Q E s := by first | (walk1; fail) | exact h
open PyProof.Rows.LCg PyProof.Rows.LCt
/-- entering a def with cells and touched objects -/
theorem enterCT {prog : Program} {w : World} {A : Around} {s : Shared} {h₀ : Heap} {K : Frag} {mg mb : Str → Option Value} {p : Program} {loose : List Str} {mean : ExcName → Option Value}
    {Q E : Value → Shared → Prop} {name qual : Str} {params : Arguments} {body : List Stmt} {scope : Scope} {dV kV doc pm cdv ct oc : Value} {an od : Option Addr} {osl : Array (Option Value)} {f : Addr} {pos : List Value} {binds : List (Str × Value)}
    (touched : List (Addr × Obj)) (X : K.In h₀) (T : Top p loose mean mg mb h₀) (hst : h₀.StaysIn s.heap) (hT : ∀ q ∈ touched, h₀.get? q.1 = none ∧ s.heap.get? q.1 = some q.2)
    (ho : K.lookup f = some ⟨oc, od, .func (fnOf name qual params body scope dV kV doc pm an cdv ct), osl⟩) (hcd : codeIn K cdv qual = true) (hroom : A.depth < recursionLimit)
    (hbind : BindsTo s (fnOf name qual params body scope dV kV doc pm an cdv ct) ⟨pos, []⟩ binds) (hkind : (binds.all fun y => scope.names.lookup y.1 == some .local || scope.names.lookup y.1 == some .cell) = true)
    (hnd : ((cellsFrom 0 scope.names []).map (·.1)).Nodup)
    (h : ∀ L' h₁ tk cells, Fr (hideAll s.heap (touched.map (·.1))) L' h₁ (bindL (envOfC qual scope L' f cdv).kindOf binds fun _ => none) → News (hideAll s.heap (touched.map (·.1))) L' h₁ (cells ++ touched) →
      CellsAre (bindC (envOfC qual scope L' f cdv).kindOf binds fun _ => none) (cellsFrom (L' + 1) scope.names []) cells → K.In (hideAll s.heap (touched.map (·.1))) → Top p loose mean mg mb (hideAll s.heap (touched.map (·.1))) → L' = s.heap.objs.size →
      wpAny (model prog w) (A.deeper (envOfC qual scope L' f cdv)) (execs body (envOfC qual scope L' f cdv))
        (fun fl s' => Q (match fl with | .ret v => v | _ => .none) s') (fun _ _ => False) { s with heap := h₁, toks := tk })
    (hco : scope.isCoroutine = false) (hgen : scope.isGenerator = false) (hk : scope.kind = .function) :
    wpAny (model prog w) A (call (.ref f) pos []) Q E s := by
  refine wpAny_call ?_
  have Xs : K.In s.heap := X.keeps hst
  have Ts : Top p loose mean mg mb s.heap := T.keeps hst
  refine codeAny_call_function (fd := fnOf name qual params body scope dV kV doc pm an cdv ct) hroom (Xs _ _ ho) rfl hco hgen rfl (codeRec_of Xs hcd) (hbind _ _ _ _ ?_)
  refine wpAny_newFunctionEnv_cells hk (kindsX hkind _) fun env' he s' x => ?_
  subst he
  refine ⟨Ts.nolimit.keeps x.toInCall.keep, codeAny_func ?_⟩
  obtain ⟨h₁, tk, rfl, _⟩ := x.done
  obtain ⟨cells, NC, Y⟩ := Cl.news (h₀ := s.heap) (Nat.le_refl _) fun n c hm => ⟨x.cell n c (lookup_of_mem_nodup (cellsFrom_names scope.names 0 (s.heap.objs.size + 1) [] [] rfl ▸ hnd) hm), x.above n c hm⟩
  have st : h₀.StaysIn (hideAll s.heap (touched.map (·.1))) := fun b o e => hideAll_get _ (hst b o e) fun q => by
    obtain ⟨r, hr, rfl⟩ := List.mem_map.mp q
    rw [(hT r hr).1] at e; cases e
  have hk₁ := x.toInCall.keep
  refine wpAny_mono (h s.heap.objs.size h₁ tk cells ⟨x.toInCall.ns, fun b o e => hk₁ b o (of_hideAll _ e), Nat.le_of_eq (hideAll_size _ _)⟩ (fun q hq => ?_) Y (X.keeps st) (T.keeps st) rfl) (fun _ _ x => x) fun _ _ y => y.elim
  rcases List.mem_append.mp hq with hq | hq
  · refine ⟨(NC q hq).1, (NC q hq).2.1, ?_⟩
    cases e : (hideAll s.heap (touched.map (·.1))).get? q.1 with
    | none => rfl
    | some o => have := of_hideAll _ e; rw [(NC q hq).2.2] at this; cases this
  · exact ⟨hk₁ _ _ (hT q hq).2, Nat.ne_of_lt (Heap.lt_size (hT q hq).2), hideAll_none _ (List.mem_map_of_mem hq)⟩
theorem enterF {prog : Program} {w : World} {A : Around} {s : Shared} {h₀ : Heap} {K : Frag} {mg mb : Str → Option Value} {p : Program} {loose : List Str} {mean : ExcName → Option Value}
    {R : Result → Shared → Prop} {name qual : Str} {params : Arguments} {body : List Stmt} {scope : Scope} {dV kV doc pm cdv ct : Value} {an : Option Addr} {cl : List (Str × Addr)} {fo : Obj} {f : Addr} {args : Args} {binds : List (Str × Value)}
    (touched : List (Addr × Obj))
    (X : K.In h₀) (T : Top p loose mean mg mb h₀) (hst : h₀.StaysIn s.heap) (hT : ∀ q ∈ touched, h₀.get? q.1 = none ∧ s.heap.get? q.1 = some q.2)
    (ho : s.heap.get? f = some fo) (hfd : fo.data = .func (fnX name qual params body scope cl dV kV doc pm an cdv ct)) (hcd : s.heap.CodeRec cdv qual) (hroom : A.depth < recursionLimit)
    (hbind : BindsTo s (fnX name qual params body scope cl dV kV doc pm an cdv ct) args binds) (hloc : ∀ y ∈ binds, scope.names.lookup y.1 = some .local)
    (h : ∀ L' h₁, Fr (hideAll s.heap (touched.map (·.1))) L' h₁ (fun y => binds.reverse.lookup y) → News (hideAll s.heap (touched.map (·.1))) L' h₁ touched → K.In (hideAll s.heap (touched.map (·.1))) →
      Top p loose mean mg mb (hideAll s.heap (touched.map (·.1))) → L' = s.heap.objs.size →
      wpAny (model prog w) (A.deeper (envX qual scope L' f cdv cl)) (execs body (envX qual scope L' f cdv cl))
        (fun fl s' => R (.ok (.ret (match fl with | .ret v => v | _ => .none))) s') (fun _ _ => False)
        { s with heap := h₁, toks := s.toks + binds.length })
    (hco : scope.isCoroutine = false) (hgen : scope.isGenerator = false) (hk : scope.kind = .function) (hcell : ∀ x ∈ scope.names, x.2 ≠ .cell) :
    codeAny (model prog w) A (.call (.ref f) args) R s := by
  have st : h₀.StaysIn (hideAll s.heap (touched.map (·.1))) := fun b o e => hideAll_get _ (hst b o e) fun q => by
    obtain ⟨r, hr, rfl⟩ := List.mem_map.mp q
    rw [(hT r hr).1] at e; cases e
  have Xs : K.In s.heap := X.keeps hst
  have Ts : Top p loose mean mg mb s.heap := T.keeps hst
  refine codeAny_call_def (fd := fnX name qual params body scope cl dV kV doc pm an cdv ct) (body := body) (binds := binds) hroom ho hfd Ts.nolimit hcd rfl hbind hcell hloc (fun h₁ hns hk₁ => ?_) hco hgen hk
  refine wpAny_mono (h s.heap.objs.size h₁ ⟨hns, fun b o e => hk₁ b o (of_hideAll _ e), Nat.le_of_eq (hideAll_size _ _)⟩
    (fun q hq => ⟨hk₁ _ _ (hT q hq).2, Nat.ne_of_lt (Heap.lt_size (hT q hq).2), hideAll_none _ (List.mem_map_of_mem hq)⟩) (X.keeps st) (T.keeps st) rfl) (fun _ _ x => x) fun _ _ y => y.elim





theorem pow_small {m : Nat} (h : m ≤ 100) (x : Int) : Builtin.divisionGoesByPylong x ((720720 : Int) ^ m) = false := by
  have h1 : ((720720 : Int) ^ m).natAbs = 720720 ^ m := by rw [Int.natAbs_pow]; rfl
  have h2 : 720720 ^ m ≠ 0 := Nat.pos_iff_ne_zero.mp (Nat.pow_pos (by decide))
  have h3 : Nat.log2 (720720 ^ m) < 20 * m + 1 := by
    rw [Nat.log2_lt h2]
    calc 720720 ^ m ≤ (2 ^ 20) ^ m := Nat.pow_le_pow_left (by decide) m
      _ = 2 ^ (20 * m) := (Nat.pow_mul ..).symm
      _ < 2 ^ (20 * m + 1) := Nat.pow_lt_pow_right (by decide) (Nat.lt_succ_self _)
  unfold Builtin.divisionGoesByPylong
  simp only [h1]
  rw [Bool.and_eq_false_iff]
  left
  rw [decide_eq_false_iff_not]
  split
  · decide
  · omega
theorem tab_ex {g h : Heap} {L : Addr} {l : List (Addr × Obj)} {ps : Array Value} {P : Prop} (N : News g L h (l ++ [(141, tabObj ps)])) (k : ∀ ps', News g L h (l ++ [(141, tabObj ps')]) → P) : P := k ps N
theorem stays_part {h h' : Heap} {pl : Addr} {o0 : Obj} {led : List (Addr × Obj)} (hst : (hideAll h (((pl, o0) :: led).map (·.1))).StaysIn h') (h1 : ∀ q ∈ led, h.get? q.1 = some q.2) (h2 : ∀ q ∈ led, h'.get? q.1 = some q.2) :
    (hideAll h [pl]).StaysIn h' := fun a o e => by
  have e1 := of_hideAll _ e
  have hne : a ≠ pl := fun q => by
    rw [q, hideAll_none _ (List.mem_singleton.mpr rfl)] at e; cases e
  by_cases q : a ∈ led.map (·.1)
  · obtain ⟨r, hr, rfl⟩ := List.mem_map.mp q
    have := h1 r hr; rw [e1] at this; rw [Option.some.inj this]; exact h2 r hr
  · exact hst a o (hideAll_get _ e1 fun q' => by
      rcases List.mem_cons.mp q' with q' | q'
      · exact hne q'
      · exact q q')
/-- what calling take does -/
def TakeSpec (w : World) (f pl : Addr) (led : List (Addr × Obj)) : Prop :=
  ∀ (h₀ : Heap) (mg mb : Str → Option Value) (p : Program) (loose : List Str) (mean : ExcName → Option Value) (s : Shared) (dp un : Nat) (fr : Option (List Env)) (gd : Option (List Code)) (Q E : Value → Shared → Prop) (k : Nat) (tk : Tok) (n : Nat) (lim : Int) (tl : Tok),
    (hd.heap_39 w.params).In h₀ → Top p loose mean mg mb h₀ → h₀.StaysIn s.heap → dp + 5 < recursionLimit → un + 60 < cLine → k ≤ 100 → 0 < lim → lim ≤ 1000 →
    (∀ q ∈ (pl, PySem.W.listOf (List.toArray [Value.int k tk]) n) :: led, h₀.get? q.1 = none ∧ s.heap.get? q.1 = some q.2) →
    (∀ h' tk' r t' tk2 n2, (hideAll s.heap [pl]).StaysIn h' → h'.get? pl = some (PySem.W.listOf (List.toArray [Value.int ((k + 1 : Nat) : Int) tk2]) n2) → 0 ≤ r → r < lim → Q (.int r t') { s with heap := h', toks := tk' }) →
    wpAny (model PR w) (arnd dp un fr gd) (call (.ref f) [.int lim tl] []) Q E s
section
local macro_rules | `(tactic| walk_at "exec FunctionDef") => `(tactic| refine stop ?_)
local macro_rules | `(tactic| walk_at "exec If Compare cons nil") => `(tactic| refine stop ?_)
local macro_rules | `(tactic| walk_at "eval Name") => `(tactic| (k_here; k_dflt (refine' nameX_F ?N ?c ?m ?d ?_ ?a ?b; (case a => exact rfl); (case b => exact rfl); (case N => k_asm); (case c => exact rfl); (case m => k_mem); (case d => k_asm); k_whole)))
local macro_rules | `(tactic| walk_at "eval Name") => `(tactic| (k_here; refine' nameX_L ?F ?v ?_ ?a ?b; (case F => k_asm); (case a => exact rfl); (case b => exact rfl); (case v => walk_at "my look"); k_whole))
local macro_rules | `(tactic| walk_at "binaryOp Pow int int") => `(tactic| refine stop ?_)
variable {w : World} {h₀ : Heap} {mg mb : Str → Option Value} {p : Program} {loose : List Str} {mean : ExcName → Option Value} {s : Shared} {dp un : Nat} {fr : Option (List Env)} {gd : Option (List Code)} {Q E : Value → Shared → Prop}

theorem c_law_taker {sl : Addr} {ws : List Value} {ns : List Int} (X : (hd.heap_39 w.params).In h₀) (T : Top p loose mean mg mb h₀) (hst : h₀.StaysIn s.heap)
    (hC : CodeHd h₀ 145 141) (hg0 : h₀.get? 141 = none) (hg1 : s.heap.get? 141 = some (tabObj #[])) (hsl : @Ne Nat sl 141)
    (hs : s.heap.IsList sl (List.toArray ws)) (hn : IntsAre ws ns) (hl : ns.length ≤ 63) (hd : dp + 10 < recursionLimit) (hu : un + 100 < cLine)
    (hq : ∀ h' tk' f pl led tt ps, (hideAll s.heap [141]).StaysIn h' → TakeSpec w f pl led → (∀ q ∈ (pl, PySem.W.listOf (List.toArray [Value.int 0 tt]) 0) :: (141, tabObj ps) :: led, h'.get? q.1 = some q.2 ∧ (hideAll s.heap [141]).get? q.1 = none) →
      (∀ q ∈ (141, tabObj ps) :: led, @Ne Nat q.1 pl) → (∀ q ∈ led, @Ne Nat q.1 141) → (∃ o fd, (f, o) ∈ led ∧ o.data = .func fd) → Q (.ref f) { s with heap := h', toks := tk' }) :
    wpAny (model PR w) (arnd dp un fr gd) (call (.ref 146) [.ref sl] []) Q E s := by
  refine' enterCT [(141, tabObj #[])] (by assumption) (by assumption) (by assumption) ?hT ?k6 ?k7 ?k8 ?k9 ?kB ?kD ?_ ?c2 ?c3 ?c4
  case hT =>
    intro q hq
    rw [List.mem_singleton.mp hq]
    exact ⟨hg0, hg1⟩
  (case k6 => k_dflt k_is)
  (case k7 => k_dflt k_is)
  (case k8 => first | exact Nat.lt_of_le_of_lt (Nat.le_add_right _ _) (by assumption) | omega | (simp only [Around.deeper] at *; omega))
  (case k9 => exact BindsTo.of_eq rfl)
  (case kD => decide)
  (case kB => exact rfl)
  (case c2 => exact rfl)
  (case c3 => exact rfl)
  (case c4 => exact rfl)
  replace hC : CodeHd (hideAll s.heap [141]) 145 141 := hC.keeps fun b o e => hideAll_get _ (hst b o e) fun q => by
    rw [List.mem_singleton.mp q, hg0] at e; cases e
  replace hs : (hideAll s.heap [141]).IsList sl (List.toArray ws) := by
    obtain ⟨o, e, r⟩ := hs
    exact ⟨o, hideAll_get _ e fun q => hsl (List.mem_singleton.mp q), r⟩
  have h141 : @LT.lt Nat _ 141 s.heap.objs.size := Heap.lt_size hg1
  clear X T hst
  intro L' h₁ tk cells F N Y X T hL
  have hY := CellsAre.two Y
  obtain ⟨o1, o2, hE, d1, d2⟩ := hY
  subst hE
  clear Y
  generalize hg : hideAll s.heap _ = g at F N X T
  replace hg : hideAll s.heap [141] = g := hg
  rw [hg] at hC hs
  obtain ⟨so, hs, hsc, sn, hsd⟩ := hs
  have h141' : @LT.lt Nat _ 141 L' := hL ▸ h141
  try dsimp only
  replace d1 : o1.data = Data.cell none := d1
  replace d2 : o2.data = Data.cell none := d2
  replace F : ∃ m, m (Str.ofString "script") = some (.ref sl) ∧ Fr g L' h₁ m := ⟨_, rfl, F⟩
  obtain ⟨m, m1, F⟩ := F
  have hlen := hn.length
  k_steps
  refine kmk_slice_ints (vs := ws) F N ⟨so, F.keep _ _ hs, hsc, sn, hsd⟩ .none (.int _ _) hn (kmk_upto hn (by omega)) rfl ?_ (by with_unfolding_all rfl) (by intro _; with_unfolding_all rfl) (by rw [List.size_toArray]; exact Nat.le_trans (show ws.length ≤ 63 by omega) (by decide))
  clear F N
  intro D2 ws2 h₂ F N l1 hws _ _
  k_steps
  rename _ = Data.cell (some (Value.ref D2)) => dc
  rename Fr _ _ _ _ => F
  rename News _ _ _ _ => N
  rename Obj => oc₀
  replace N : News g L' _ [(D2, PySem.W.listOf (List.toArray ws2) 0), (L' + 1 + 1, o1), (L' + 1, oc₀), (141, tabObj #[])] := N
  refine unstop (wpAny_mono (Q := fun f s' => Stop (f = .next ∧ ∃ h' tk' cl ws3 ns3 n3 oc, s' = { s with heap := h', toks := tk' } ∧ Fr g L' h' m ∧
    News g L' h' [(cl, PySem.W.listOf (List.toArray ws3) n3), (L' + 1 + 1, o1), (L' + 1, oc), (141, tabObj #[])] ∧ oc.data = Data.cell (some (Value.ref cl)) ∧ IntsAre ws3 ns3 ∧ 1 ≤ ns3.length ∧ ns3.length ≤ 63 ∧ @LT.lt Nat _ (L' + 1 + 1) cl)) ?join ?rest fun _ _ e => e)
  case join =>
    have hD2 : @LT.lt Nat _ (L' + 1 + 1) D2 := l1 (L' + 1 + 1, o1) (.head _)
    have hD1 : @LT.lt Nat _ (L' + 1) D2 := l1 (L' + 1, o2) (.tail _ (.head _))
    have hD3 : @LT.lt Nat _ 141 D2 := l1 (141, tabObj #[]) (.tail _ (.tail _ (.head _)))
    clear l1
    refine wpAny_If ?_
    k_steps
    · rename Fr _ _ _ _ => F
      rename News _ _ _ _ => N
      rename _ = Data.cell (some (Value.ref _)) => d'
      rename (@LT.lt Nat _ _ _ ∧ @LT.lt Nat _ D2 _ ∧ _) => l2
      refine name_first N fun lc hlc => ?_
      subst hlc
      have hN : ∀ (tt : Tok) (l5 : Addr) (o5 oc : Obj) (h : Heap) (ts : Nat), News g L' h [(lc, PySem.W.listOf (List.toArray [Value.int 1 tt]) 0), (l5, o5), (D2, PySem.W.listOf (List.toArray ws2) 0), (L' + 1 + 1, o1), (L' + 1, oc), (141, tabObj #[])] → Fr g L' h m → oc.data = .cell (some (.ref lc)) →
          Stop (Flow.next = Flow.next ∧ ∃ h' tk' cl ws3 ns3 n3 oc, ({ s with heap := h, toks := ts } : Shared) = { s with heap := h', toks := tk' } ∧ Fr g L' h' m ∧
            News g L' h' [(cl, PySem.W.listOf (List.toArray ws3) n3), (L' + 1 + 1, o1), (L' + 1, oc), (141, tabObj #[])] ∧ oc.data = Data.cell (some (Value.ref cl)) ∧ IntsAre ws3 ns3 ∧ 1 ≤ ns3.length ∧ ns3.length ≤ 63 ∧ @LT.lt Nat _ (L' + 1 + 1) cl) := by
        intro tt l5 o5 oc h ts N F d'
        refine ⟨rfl, _, _, lc, [Value.int 1 tt], [1], 0, oc, rfl, F, news_sub N ?_, d', .cons _ _ .nil, by decide, by decide, l2.2.2.1⟩
        walk_at "my sub"
      exact hN _ _ _ _ _ _ N F d'
    · rename Fr _ _ _ _ => F
      rename News _ _ _ _ => N
      rename _ = false => hz
      have hne := of_decide_eq_false hz
      refine ⟨rfl, _, _, D2, ws2, ns.take (Int.toNat 63), 0, oc₀, rfl, F, news_sub N ?_, dc, hws, ?_, ?_, hD2⟩
      · intro q hq
        exact .tail _ hq
      · cases h : ns.take (Int.toNat 63) with
        | nil => exact absurd h hne
        | cons => simp
      · rw [List.length_take]
        exact Nat.le_trans (Nat.min_le_left _ _) (by decide)
  case rest =>
    clear F N dc hws l1
    rintro _ _ ⟨rfl, h₃, tk₃, cl, ws3, ns3, n3, oc, rfl, F, N, dc, hi3, hl1, hl63, hcl⟩
    dsimp only
    k_steps
    rename Fr _ _ _ _ => F
    rename News _ _ _ _ => N
    rename _ = Data.cell (some (Value.ref _)) => dp
    rename Obj => op
    rename (@LT.lt Nat _ cl _ ∧ _) => l2
    refine name_first N fun pl hpl => ?_
    subst hpl
    obtain ⟨tp, hp0⟩ : ∃ tp, tp = tk₃ := ⟨_, rfl⟩
    replace N : News g L' _ [(pl, PySem.W.listOf (List.toArray [.int 0 tk₃]) 0), (cl, PySem.W.listOf (List.toArray ws3) n3), (L' + 1 + 1, op), (L' + 1, oc), (141, tabObj #[])] := N
    refine unstop (nestDef_K rfl rfl rfl (nest_K F N T hC rfl (by k_updF) (by kn_triples) (by kn_among) rfl ?_))
    clear F N
    intro f c' oq vs t ctv doc h₄ tk₄ F N hd1 hd2 l3 l4
    k_steps
    rename Fr _ _ _ _ => F
    rename News _ _ _ _ => N
    refine name_first2 N fun f' FO hf hFO => ?_
    subst hf
    rw [← hFO] at N
    have hpc : @LT.lt Nat _ pl c' := l3 (pl, _) (.head _)
    have hcf : @LT.lt Nat _ c' f' := l4
    have spec : TakeSpec w f' pl [(f', FO), (c', oq), (cl, PySem.W.listOf (List.toArray ws3) n3), (L' + 1 + 1, op), (L' + 1, oc)] := by
      clear F N X T hC hs hg0 hg1 hsl hg
      intro h₀' mg' mb' p' loose' mean' s' dp' un' fr' gd' Q' E' k tkk nk lim tl X T hst hd' hu' hk hlim0 hlim1 hT hq'
      refine wpAny_call (enterF ((pl, PySem.W.listOf (List.toArray [Value.int k tkk]) nk) :: [(f', FO), (c', oq), (cl, PySem.W.listOf (List.toArray ws3) n3), (L' + 1 + 1, op), (L' + 1, oc)]) X T hst hT (hT _ (.tail _ (.head _))).2 (congrArg Obj.data hFO)
        ⟨_, _, _, _, rfl, (hT _ (.tail _ (.tail _ (.head _)))).2, hd1, hd2⟩ (by show dp' < recursionLimit; omega) (BindsTo.of_eq rfl) (locs rfl) ?_ rfl rfl rfl (by decide))
      clear X T hst
      intro L₂ h₅ F N X T hL₂
      try dsimp only
      generalize hg : hideAll s'.heap _ = g₂ at F N X T
      k_steps
      have e0 : [(k : Int)].getD (Int.toNat 0) 0 = (k : Int) := rfl
      rename Fr _ _ _ _ => F
      rename News _ _ _ _ => N
      rw [e0] at F N ⊢
      have hlv : 0 ≤ (k : Int).fdiv ns3.length ∧ (k : Int).fdiv ns3.length ≤ 100 := by
        rw [Int.fdiv_eq_ediv_of_nonneg _ (by omega)]
        exact ⟨Int.ediv_nonneg (by omega) (by omega), Int.le_trans (Int.ediv_le_self _ (by omega)) (by omega)⟩
      refine unstop (pow_int_small hlv.1 (by omega) (by decide) ?_)
      have hlm : ((k : Int).fdiv ns3.length).toNat ≤ 100 := by omega
      have hpn : (720720 : Int) ^ ((k : Int).fdiv ns3.length).toNat ≠ 0 := by
        intro e
        have := congrArg Int.natAbs e
        rw [Int.natAbs_pow] at this
        exact absurd this (Nat.pos_iff_ne_zero.mp (Nat.pow_pos (by decide)))
      have hps := fun x => pow_small hlm x
      generalize (720720 : Int) ^ ((k : Int).fdiv ns3.length).toNat = pw at hpn hps
      k_steps
      refine floordiv_int hpn ?_ (.inl (hps _))
      k_steps
      dsimp only
      refine hq' _ _ _ _ _ _ (stays_part (hg ▸ F.keep) (fun q hq => (hT q (.tail _ hq)).2) (fun q hq => (N q (.tail _ hq)).1)) (N.get (.head _)) (Int.fmod_nonneg_of_pos _ hlim0) (Int.fmod_lt_of_pos _ hlim0)
    dsimp only
    have hne : ∀ q ∈ [(f', FO), (c', oq), (cl, PySem.W.listOf (List.toArray ws3) n3), (L' + 1 + 1, op), (L' + 1, oc)], @Ne Nat q.1 pl := by
      intro q hq
      simp only [List.mem_cons, List.not_mem_nil, or_false] at hq
      rcases hq with rfl | rfl | rfl | rfl | rfl
      · show @Ne Nat f' pl; omega
      · show @Ne Nat c' pl; omega
      · show @Ne Nat cl pl; omega
      · show @Ne Nat (L' + 1 + 1) pl; omega
      · show @Ne Nat (L' + 1) pl; omega
    have hne2 : ∀ q ∈ [(f', FO), (c', oq), (cl, PySem.W.listOf (List.toArray ws3) n3), (L' + 1 + 1, op), (L' + 1, oc)], @Ne Nat q.1 141 := by
      have hc9 : @LT.lt Nat _ 141 c' := l3 (141, tabObj #[]) (by simp)
      intro q hq
      simp only [List.mem_cons, List.not_mem_nil, or_false] at hq
      rcases hq with rfl | rfl | rfl | rfl | rfl
      · show @Ne Nat f' 141; omega
      · show @Ne Nat c' 141; omega
      · show @Ne Nat cl 141; omega
      · show @Ne Nat (L' + 1 + 1) 141; omega
      · show @Ne Nat (L' + 1) 141; omega
    subst hg
    refine tab_ex (l := [(f', FO), (c', oq), (pl, PySem.W.listOf (List.toArray [Value.int 0 tk₃]) 0), (cl, PySem.W.listOf (List.toArray ws3) n3), (L' + 1 + 1, op), (L' + 1, oc)]) N fun tps N => ?_
    refine hq _ _ _ pl _ tk₃ tps F.keep spec (fun q hq => ?_) (fun q hq => ?_) hne2 ⟨FO, _, .head _, congrArg Obj.data hFO⟩
    · have := N q (by
        simp only [List.mem_cons, List.not_mem_nil, or_false, List.cons_append, List.nil_append] at hq ⊢
        grind)
      exact ⟨this.1, this.2.2⟩
    · rcases List.mem_cons.mp hq with rfl | hq
      · show @Ne Nat 141 pl; omega
      · exact hne q hq
end
example {M : PySem.Model} {A : PySem.Around} {t : PySem.Sem Unit} {Q : Unit → PySem.Shared → Prop} {E : PySem.Value → PySem.Shared → Prop} {s : PySem.Shared} (h : PySem.wpAny M A t Q E s) : PySem.wpAny M A t Q E s := by first | (walk1; fail) | exact h
open PyProof.Rows.LCg PyProof.Rows.LCt
/-- entering a def with cells and touched objects, over the clean stacks -/
theorem enterGCT {prog : Program} {w : World} {A : Around} {s : Shared} {h₀ : Heap} {K : Frag} {mg mb : Str → Option Value} {p : Program} {loose : List Str} {mean : ExcName → Option Value}
    {Q E : Value → Shared → Prop} {name qual : Str} {params : Arguments} {body : List Stmt} {scope : Scope} {dV kV doc pm cdv ct oc : Value} {an od : Option Addr} {osl : Array (Option Value)} {f : Addr} {pos : List Value} {binds : List (Str × Value)}
    (touched : List (Addr × Obj)) (X : K.In h₀) (T : Top p loose mean mg mb h₀) (hst : h₀.StaysIn s.heap) (hT : ∀ q ∈ touched, h₀.get? q.1 = none ∧ s.heap.get? q.1 = some q.2)
    (ho : K.lookup f = some ⟨oc, od, .func (fnOf name qual params body scope dV kV doc pm an cdv ct), osl⟩) (hcd : codeIn K cdv qual = true) (hroom : A.depth < recursionLimit)
    (hbind : BindsTo s (fnOf name qual params body scope dV kV doc pm an cdv ct) ⟨pos, []⟩ binds) (hkind : (binds.all fun y => scope.names.lookup y.1 == some .local || scope.names.lookup y.1 == some .cell) = true)
    (hnd : ((cellsFrom 0 scope.names []).map (·.1)).Nodup)
    (h : ∀ L' h₁ tk cells, Fr (hideAll s.heap (touched.map (·.1))) L' h₁ (bindL (envOfC qual scope L' f cdv).kindOf binds fun _ => none) → News (hideAll s.heap (touched.map (·.1))) L' h₁ (cells ++ touched) →
      CellsAre (bindC (envOfC qual scope L' f cdv).kindOf binds fun _ => none) (cellsFrom (L' + 1) scope.names []) cells → K.In (hideAll s.heap (touched.map (·.1))) → Top p loose mean mg mb (hideAll s.heap (touched.map (·.1))) → L' = s.heap.objs.size →
      wpG (model prog w) (A.deeper (envOfC qual scope L' f cdv)) (execs body (envOfC qual scope L' f cdv))
        (fun fl s' => Q (match fl with | .ret v => v | _ => .none) s') (fun _ _ => False) { s with heap := h₁, toks := tk })
    (hco : scope.isCoroutine = false) (hgen : scope.isGenerator = false) (hk : scope.kind = .function) :
    wpG (model prog w) A (call (.ref f) pos []) Q E s := by
  refine wpG_call ?_
  have Xs : K.In s.heap := X.keeps hst
  have Ts : Top p loose mean mg mb s.heap := T.keeps hst
  refine codeG_call_function (fd := fnOf name qual params body scope dV kV doc pm an cdv ct) hroom (Xs _ _ ho) rfl hco hgen rfl (codeRec_of Xs hcd) (hbind _ _ _ _ ?_)
  refine wpAny_newFunctionEnv_cells hk (kindsX hkind _) fun env' he s' x => ?_
  subst he
  refine ⟨Ts.nolimit.keeps x.toInCall.keep, codeG_func ?_⟩
  obtain ⟨h₁, tk, rfl, _⟩ := x.done
  obtain ⟨cells, NC, Y⟩ := Cl.news (h₀ := s.heap) (Nat.le_refl _) fun n c hm => ⟨x.cell n c (lookup_of_mem_nodup (cellsFrom_names scope.names 0 (s.heap.objs.size + 1) [] [] rfl ▸ hnd) hm), x.above n c hm⟩
  have st : h₀.StaysIn (hideAll s.heap (touched.map (·.1))) := fun b o e => hideAll_get _ (hst b o e) fun q => by
    obtain ⟨r, hr, rfl⟩ := List.mem_map.mp q
    rw [(hT r hr).1] at e; cases e
  have hk₁ := x.toInCall.keep
  refine h s.heap.objs.size h₁ tk cells ⟨x.toInCall.ns, fun b o e => hk₁ b o (of_hideAll _ e), Nat.le_of_eq (hideAll_size _ _)⟩ (fun q hq => ?_) Y (X.keeps st) (T.keeps st) rfl
  rcases List.mem_append.mp hq with hq | hq
  · refine ⟨(NC q hq).1, (NC q hq).2.1, ?_⟩
    cases e : (hideAll s.heap (touched.map (·.1))).get? q.1 with
    | none => rfl
    | some o => have := of_hideAll _ e; rw [(NC q hq).2.2] at this; cases this
  · exact ⟨hk₁ _ _ (hT q hq).2, Nat.ne_of_lt (Heap.lt_size (hT q hq).2), hideAll_none _ (List.mem_map_of_mem hq)⟩



def FnIs (_ : Addr) (o : Obj) : Prop := ∃ fd, o.data = .func fd
theorem callWith_take {M : Model} {A : Around} {E : Value → Shared → Prop} {s : Shared} {env : Env} {pos : Pos} {f : Addr} {o : Obj} {e : Expr} {rest : List Expr} {Q : Value → Shared → Prop} (hf : FnIs f o)
    (h : wpAny M A (spliced (backTo pos (starEach (e :: rest) env))) (fun vs s₁ => s₁.heap.get? f = some o ∧ wpAny M A (call (.ref f) vs) Q E s₁) E s)
    (he : starEach (e :: rest) env = (false, eval e env) :: starEach rest env := by rfl) :
    wpAny M A (callWith pos (.ref f) [] (backTo pos (starEach (e :: rest) env)) []) Q E s := by
  obtain ⟨fd, hd⟩ := hf
  exact callWith_def hd h he
theorem take_call {w : World} {g : Heap} {L : Addr} {mg mb : Str → Option Value} {p : Program} {loose : List Str} {mean : ExcName → Option Value} {s : Shared} {dp un : Nat} {fr : Option (List Env)} {gd : Option (List Code)} {Q E : Value → Shared → Prop}
    {f pl : Addr} {led rest : List (Addr × Obj)} {m : Str → Option Value} {k : Nat} {tk : Tok} {n : Nat} {lim : Int} {tl : Tok}
    (spec : TakeSpec w f pl led) (X : (hd.heap_39 w.params).In g) (T : Top p loose mean mg mb g) (F : Fr g L s.heap m) (N : News g L s.heap ((pl, PySem.W.listOf (List.toArray [Value.int k tk]) n) :: rest)) (hled : ∀ q ∈ led, q ∈ rest) (hr : ∀ q ∈ rest, @Ne Nat q.1 pl)
    (hd : dp + 5 < recursionLimit) (hu : un + 60 < cLine) (hk : k ≤ 100) (h0 : 0 < lim) (h1 : lim ≤ 1000)
    (h : ∀ h' tk' r t' tk2 n2, Fr g L h' m → News g L h' ((pl, PySem.W.listOf (List.toArray [Value.int ((k + 1 : Nat) : Int) tk2]) n2) :: rest) → 0 ≤ r → r < lim → Q (.int r t') { s with heap := h', toks := tk' }) :
    wpAny (model PR w) (arnd dp un fr gd) (call (.ref f) [.int lim tl] []) Q E s := by
  refine spec g mg mb p loose mean s dp un fr gd Q E k tk n lim tl X T F.keep hd hu hk h0 h1 (fun q hq => ?_) fun h' tk' r t' tk2 n2 hst hpl hr0 hr1 => ?_
  · have hm : q ∈ (pl, PySem.W.listOf (List.toArray [Value.int k tk]) n) :: rest := by
      rcases List.mem_cons.mp hq with rfl | hq
      · exact .head _
      · exact .tail _ (hled q hq)
    exact ⟨(N q hm).2.2, (N q hm).1⟩
  · have hp := N _ (.head _)
    refine h h' tk' r t' tk2 n2 (fr_after F hst (fun a ha => by rw [List.mem_singleton.mp ha]; exact hp.2.2) (fun q => hp.2.1 (List.mem_singleton.mp q).symm)) (fun q hq => ?_) hr0 hr1
    rcases List.mem_cons.mp hq with rfl | hq
    · exact ⟨hpl, hp.2⟩
    · exact news_after (fun q hq => N q (.tail _ hq)) hst (fun q hq e => hr q hq (List.mem_singleton.mp e)) q hq
theorem news_merge {g h h' : Heap} {L : Addr} {m : Str → Option Value} {nw tl : List (Addr × Obj)} (F : Fr g L h m) (N : News g L h' nw) (hd : ∀ q ∈ tl, h'.get? q.1 = some q.2 ∧ h.get? q.1 = none ∧ q.2.cls = .type "tuple") : News g L h' (nw ++ tl) := fun q hq => by
  rcases List.mem_append.mp hq with hq | hq
  · exact N q hq
  · exact news_cons' F N (hd q hq).2.1 (hd q hq).1 q (.head _)
theorem tup_all {tl tl' : List (Addr × Obj)} (h1 : ∀ q ∈ tl, q.2.cls = .type "tuple") (h2 : ∀ q ∈ tl', q.2.cls = .type "tuple") : ∀ q ∈ tl ++ tl', q.2.cls = .type "tuple" := fun q hq => by
  rcases List.mem_append.mp hq with hq | hq
  · exact h1 q hq
  · exact h2 q hq
inductive JLaw (w : World) (B : List UInt8) (c : ChAt) (far : Int) (mo tr mn : Nat) (t₄ tk₈ tk₁₀ tk₁₂ tB : Tok) (bl : Addr) (tps : Array Value) (i : Nat) (m' : Str → Option Value) (nw : List (Addr × Obj)) : Prop
  | mk (k : Nat) (oh : Obj) (vs : List Value) (n : Nat) (ws : List Value) (nb : Nat) (tl : List (Addr × Obj)) : (nw = (bl, PySem.W.listOf (List.toArray ws) nb) :: (c.x, instObj 99 c.dx) :: (c.dx, dictOf (chDict w.params B c.hd c.er c.tb c.t1 c.t2 c.t3) 3) :: (c.hd, oh) :: (c.er, PySem.W.listOf (List.toArray vs) n) :: (141, tabObj tps) :: tl) → (ChOK w B c k oh vs) → (k ≤ i) → (PairsIn tl ws ((List.range i).map fun a => bestI B far mo tr a)) → ((∀ q ∈ tl, q.2.cls = .type "tuple")) → (m' (Str.ofString "many") = some (.int mn t₄)) → (m' (Str.ofString "far") = some (.int far tk₈)) → (m' (Str.ofString "most") = some (.int mo tk₁₀)) → (m' (Str.ofString "tries") = some (.int tr tk₁₂)) → (m' (Str.ofString "octets") = some (.bytes B.toArray tB)) → (m' (Str.ofString "chains") = some (.ref c.x)) → (m' (Str.ofString "best") = some (.ref bl)) → JLaw w B c far mo tr mn t₄ tk₈ tk₁₀ tk₁₂ tB bl tps i m' nw
inductive JPart (w : World) (B : List UInt8) (c : ChAt) (far : Int) (mo tr mn : Nat) (t₄ tk₈ tk₁₀ tk₁₂ tB : Tok) (bl pl : Addr) (tps : Array Value) (ws : List Value) (nb : Nat) (oh : Obj) (vs : List Value) (n : Nat) (tl : List (Addr × Obj)) (nn : Nat) (m' : Str → Option Value) (nw : List (Addr × Obj)) : Prop
  | mk (pws : List Value) (n₁ : Nat) (ps : List Part) (a : Nat) : (nw = (pl, PySem.W.listOf (List.toArray pws) n₁) :: (bl, PySem.W.listOf (List.toArray ws) nb) :: (c.x, instObj 99 c.dx) :: (c.dx, dictOf (chDict w.params B c.hd c.er c.tb c.t1 c.t2 c.t3) 3) :: (c.hd, oh) :: (c.er, PySem.W.listOf (List.toArray vs) n) :: (141, tabObj tps) :: tl) → (PartsIn tl pws ps) → (ps.length ≤ a) → (a ≤ B.length) → (ps ++ findI B far mo tr a = findI B far mo tr 0) → (nn = B.length - a) → (m' (Str.ofString "many") = some (.int mn t₄)) → (m' (Str.ofString "far") = some (.int far tk₈)) → (m' (Str.ofString "most") = some (.int mo tk₁₀)) → (m' (Str.ofString "tries") = some (.int tr tk₁₂)) → (m' (Str.ofString "octets") = some (.bytes B.toArray tB)) → (m' (Str.ofString "chains") = some (.ref c.x)) → (m' (Str.ofString "best") = some (.ref bl)) → (m' (Str.ofString "parts") = some (.ref pl)) → (IntIs m' (Str.ofString "at") a) → JPart w B c far mo tr mn t₄ tk₈ tk₁₀ tk₁₂ tB bl pl tps ws nb oh vs n tl nn m' nw
section
local macro_rules | `(tactic| walk_at "eval ListComp") => `(tactic| refine stop ?_)
local macro_rules | `(tactic| walk_at "compareOp NotEq ref ref") => `(tactic| refine stop ?_)
local macro_rules | `(tactic| walk_at "compareOp Eq ref ref") => `(tactic| refine stop ?_)
local macro_rules | `(tactic| walk_at "CompSrc") => `(tactic| refine stop ?_)
local macro_rules | `(tactic| walk_at "subscriptTail Name Name ref int") => `(tactic| refine stop ?_)
local macro_rules | `(tactic| walk_at "subscriptTail Name UnaryOp ref int") => `(tactic| refine stop ?_)
local macro_rules | `(tactic| walk_at "callWith ref") => `(tactic| (k_here; k_dflt (refine' callWith_take ?hf ?_; (case hf => assumption); k_whole)))
variable {w : World} {h₀ : Heap} {mg mb : Str → Option Value} {p : Program} {loose : List Str} {mean : ExcName → Option Value} {s : Shared} {dp un : Nat} {fr : Option (List Env)} {gd : Option (List Code)} {Q E : Value → Shared → Prop}

theorem c_law {sl : Addr} {ws : List Value} {ns : List Int} (X : (hd.heap_39 w.params).In h₀) (T : Top p loose mean mg mb h₀) (hst : h₀.StaysIn s.heap)
    (hC : CodeHd h₀ 145 141) (hg0 : h₀.get? 141 = none) (hg1 : s.heap.get? 141 = some (tabObj #[])) (hsl : @Ne Nat sl 141)
    (hs : s.heap.IsList sl (List.toArray ws)) (hn : IntsAre ws ns) (hl : ns.length ≤ 63) (hd : dp + 20 < recursionLimit) (hu : un + 300 < cLine)
    (hq : ∀ h' tk' ps, (hideAll s.heap [141]).StaysIn h' → h'.get? 141 = some (tabObj ps) → Q (.bool true) { s with heap := h', toks := tk' }) :
    wpG (model PR w) (arnd dp un fr (some [])) (call (.ref 168) [.ref sl] []) Q E s := by
  refine' enterGCT [(141, tabObj #[])] (by assumption) (by assumption) (by assumption) ?hT ?k6 ?k7 ?k8 ?k9 ?kB ?kD ?_ ?c2 ?c3 ?c4
  case hT =>
    intro q hq
    rw [List.mem_singleton.mp hq]
    exact ⟨hg0, hg1⟩
  (case k6 => k_dflt k_is)
  (case k7 => k_dflt k_is)
  (case k8 => exact Nat.lt_of_le_of_lt (Nat.le_add_right _ _) hd)
  (case k9 => exact BindsTo.of_eq rfl)
  (case kD => decide)
  (case kB => exact rfl)
  (case c2 => exact rfl)
  (case c3 => exact rfl)
  (case c4 => exact rfl)
  have h141 : @LT.lt Nat _ 141 s.heap.objs.size := Heap.lt_size hg1
  replace hC : CodeHd (hideAll s.heap [141]) 145 141 := hC.keeps fun b o e => hideAll_get _ (hst b o e) fun q => by
    rw [List.mem_singleton.mp q, hg0] at e; cases e
  replace hs : (hideAll s.heap [141]).IsList sl (List.toArray ws) := by
    obtain ⟨o, e, r⟩ := hs
    exact ⟨o, hideAll_get _ e fun q => hsl (List.mem_singleton.mp q), r⟩
  clear X T hst
  intro L' h₁ tk cells F N Y X T hL
  have hY := CellsAre.two Y
  obtain ⟨o1, o2, hE, d1, d2⟩ := hY
  subst hE
  clear Y
  generalize hg : hideAll s.heap _ = g at F N X T
  replace hg : hideAll s.heap [141] = g := hg
  rw [hg] at hC hs
  have h141' : @LT.lt Nat _ 141 L' := hL ▸ h141
  try dsimp only
  replace d1 : o1.data = Data.cell none := d1
  replace d2 : o2.data = Data.cell none := d2
  replace F : ∃ m, m (Str.ofString "script") = some (.ref sl) ∧ Fr g L' h₁ m := ⟨_, rfl, F⟩
  obtain ⟨m, m1, F⟩ := F
  have hlen := hn.length
  -- take = _law_taker(script)
  refine wpG_execs_cons (wpG_of ?_)
  k_steps
  have hg0' : g.get? 141 = none := by rw [← hg]; exact hideAll_none _ (List.mem_singleton.mpr rfl)
  refine unstop (c_law_taker X T F.keep hC hg0' (N.get (.tail _ (.tail _ (.head _)))) hsl (hs.at fun o e => F.keep _ _ e) hn hl (by walk_at "my room") (by walk_at "my room") ?_)
  intro h₂ tk₂ f pl led tt tps hst₂ spec hled hne hne2 hf
  obtain ⟨FO, fd, hFm, hFd⟩ := hf
  have hFI : FnIs f FO := ⟨fd, hFd⟩
  have hnew : ∀ q ∈ (pl, PySem.W.listOf (List.toArray [Value.int 0 tt]) 0) :: (141, tabObj tps) :: led, ∀ r ∈ [(L' + 1 + 1, o1), (L' + 1, o2)], @Ne Nat q.1 r.1 := by
    intro q hq r hr e
    have h1 := (hled q hq).2
    have h2 := (N r (List.mem_append_left _ hr)).1
    have h3 : r.1 ∉ [141] := by
      intro e
      have e' : @Eq Nat r.1 141 := List.mem_singleton.mp e
      simp only [List.mem_cons, List.not_mem_nil, or_false] at hr
      rcases hr with rfl | rfl <;> (dsimp only at e'; omega)
    rw [show q.1 = r.1 from e, hideAll_get _ h2 h3] at h1
    cases h1
  have hL141 : L' ∉ [141] := fun e => by
    have e' : @Eq Nat L' 141 := List.mem_singleton.mp e
    omega
  replace N : News g L' h₂ ((L' + 1, o2) :: (L' + 1 + 1, o1) :: (pl, PySem.W.listOf (List.toArray [Value.int ((0 : Nat) : Int) tt]) 0) :: (141, tabObj tps) :: led) := by
    have hold : News g L' h₂ [(L' + 1 + 1, o1), (L' + 1, o2)] := news_after (fun q hq => N q (List.mem_append_left _ hq)) hst₂ fun q hq e => hnew (141, tabObj tps) (.tail _ (.head _)) q hq (List.mem_singleton.mp e).symm
    intro q hq
    simp only [List.mem_cons] at hq
    have back : q ∈ (pl, PySem.W.listOf (List.toArray [Value.int 0 tt]) 0) :: (141, tabObj tps) :: led → h₂.get? q.1 = some q.2 ∧ q.1 ≠ L' ∧ g.get? q.1 = none := by
      intro hq
      obtain ⟨h1, h2⟩ := hled q hq
      refine ⟨h1, fun e => ?_, ?_⟩
      · obtain ⟨oL, _, _, hoL, _⟩ := F.ns
        rw [e, hideAll_get _ hoL hL141] at h2; cases h2
      · cases e : g.get? q.1 with
        | none => rfl
        | some o =>
          rw [hideAll_get _ (F.keep _ _ e) fun e2 => by rw [List.mem_singleton.mp e2, hg0'] at e; cases e] at h2
          cases h2
    rcases hq with rfl | rfl | hq
    · exact hold _ (.tail _ (.head _))
    · exact hold _ (.head _)
    · exact back (by simp only [List.mem_cons]; exact hq)
  replace F := fr_after F hst₂ (fun a ha => by rw [List.mem_singleton.mp ha]; exact hg0') hL141
  clear hst₂ hled
  k_steps
  have hLe : ∀ q ∈ led, q.1 ≠ L' + 1 := fun q hq => hnew q (.tail _ (.tail _ hq)) (L' + 1, o2) (.tail _ (.head _))
  have hLs : ∀ q ∈ led, q.1 ≠ L' + 1 + 1 := fun q hq => hnew q (.tail _ (.tail _ hq)) (L' + 1 + 1, o1) (.head _)
  have hp1 : @Ne Nat pl (L' + 1) := hnew (pl, _) (.head _) (L' + 1, o2) (.tail _ (.head _))
  have hp2 : @Ne Nat pl (L' + 1 + 1) := hnew (pl, _) (.head _) (L' + 1 + 1, o1) (.head _)
  refine storeC F N (fun q hq e => ?_) rfl d2 ?_
  · have e' : @Eq Nat q.1 (L' + 1) := e
    simp only [List.mem_cons] at hq
    rcases hq with rfl | rfl | rfl | hq
    · dsimp only at e'; omega
    · exact hp1 e'
    · dsimp only at e'; omega
    · exact hLe q hq e
  clear F N hnew
  intro h₃ ot F N dt
  replace N : News g L' h₃ ((pl, PySem.W.listOf (List.toArray [Value.int ((0 : Nat) : Int) tt]) 0) :: (L' + 1, ot) :: (L' + 1 + 1, o1) :: (141, tabObj tps) :: led) := news_sub N (by
    walk_at "my sub")
  dsimp only
  -- many = take(21)
  refine wpG_execs_cons (wpG_of ?_)
  k_steps
  · exact N.get (.tail _ (.tail _ (.tail _ (.tail _ hFm))))
  have hrest : ∀ (os : Obj), ∀ q ∈ (L' + 1, ot) :: (L' + 1 + 1, os) :: (141, tabObj tps) :: led, @Ne Nat q.1 pl := by
    intro os q hq
    simp only [List.mem_cons] at hq
    rcases hq with rfl | rfl | rfl | hq
    · exact Ne.symm hp1
    · exact Ne.symm hp2
    · exact hne _ (.head _)
    · exact hne _ (.tail _ hq)
  have hsubl : ∀ (os : Obj), ∀ q ∈ led, q ∈ (L' + 1, ot) :: (L' + 1 + 1, os) :: (141, tabObj tps) :: led := fun os q hq => .tail _ (.tail _ (.tail _ hq))
  refine unstop (take_call spec X T F N (hsubl _) (hrest _) (by walk_at "my room") (by walk_at "my room") (by first | decide | omega) (by first | decide | omega) (by first | decide | omega) ?_)
  clear F N
  intro h₄ tk₄ many t₄ tk₅ n₄ F N hm0 hm1
  k_steps
  rename Fr _ _ _ _ => F
  rename News _ _ _ _ => N
  -- signs = 1 + take(3)
  refine wpG_execs_cons (wpG_of ?_)
  k_steps
  · exact N.get (.tail _ (.tail _ (.tail _ (.tail _ hFm))))
  refine unstop (take_call spec X T F N (hsubl _) (hrest _) (by walk_at "my room") (by walk_at "my room") (by first | decide | omega) (by first | decide | omega) (by first | decide | omega) ?_)
  clear F N
  intro h₅ tk₆ sg t₆ tk₇ n₅ F N hs0 hs1
  k_steps
  rename _ = Data.cell (some (Value.int _ _)) => ds
  rename Fr _ _ _ _ => F
  rename News _ _ _ _ => N
  rename Obj => os
  replace N : News g L' _ ((pl, PySem.W.listOf (List.toArray [Value.int ((0 + 1 + 1 : Nat) : Int) tk₇]) n₅) :: (L' + 1, ot) :: (L' + 1 + 1, os) :: (141, tabObj tps) :: led) := N
  -- octets = bytes([97 + take(signs) for turn in range(many)])
  refine wpG_execs_cons (wpG_of ?_)
  k_steps
  refine unstop (ListComp_U (F₀ := F) (by with_unfolding_all rfl) (by decide) (by rfl) (by decide) (by rfl) ?_)
  k_steps
  rename IsRange _ _ _ _ _ _ _ _ => hrg
  rename Fr _ _ _ _ => F
  rename News _ _ _ _ => N
  obtain ⟨mn, rfl⟩ := Int.eq_ofNat_of_zero_le hm0
  refine unstop (CompSrc.range (n := mn) rfl F N hrg (small_one (by omega) (by omega) (by omega) (by omega)) (by rw [rangeSize_one]; split <;> omega) (Nat.le_trans (show mn ≤ 21 by omega) (by decide)) ?_)
  intro g'
  refine comp_inv_U (fun i ys news => ∃ (tk : Tok) (n : Nat) (ns : List Int), news = (pl, PySem.W.listOf (List.toArray [Value.int ((2 + i : Nat) : Int) tk]) n) :: (L' + 1, ot) :: (L' + 1 + 1, os) :: (141, tabObj tps) :: led ∧ IntsAre ys ns ∧ ns.length = i ∧ (∀ n ∈ ns, 0 ≤ n ∧ n < 256)) mn ?turn ?done _ 0 [] _ (by omega) ⟨tk₇, n₅, [], rfl, .nil, rfl, fun _ h => nomatch h⟩
  case turn =>
    clear F N hrg
    rintro i ys news hi ⟨tki, ni, nsi, rfl, hys, hnl, hnr⟩ v I oI C oC D m₂ h tk E' ⟨tv, rfl⟩ hC2 hx F N off ne
    k_steps
    · exact N.get (.tail _ (.tail _ (.tail _ (.tail _ (.tail _ (.tail _ (.tail _ hFm)))))))
    have hpI : @Ne Nat pl I := off.1.1
    have hpC : @Ne Nat pl C := off.1.2.1
    have hpD : @Ne Nat pl D := off.1.2.2
    replace N : News g L' h ((pl, PySem.W.listOf (List.toArray [Value.int ((2 + i : Nat) : Int) tki]) ni) :: (I, oI) :: (C, oC) :: (D, lst ys) :: (L' + 1, ot) :: (L' + 1 + 1, os) :: (141, tabObj tps) :: led) := news_sub N (by
      walk_at "my sub")
    refine unstop (take_call spec X T F N (fun q hq => .tail _ (.tail _ (.tail _ (hsubl os q hq)))) (fun q hq => ?_) (by walk_at "my room") (by walk_at "my room") (by first | decide | omega) (by first | decide | omega) (by first | decide | omega) ?_)
    · simp only [List.mem_cons] at hq
      rcases hq with rfl | rfl | rfl | hq
      · exact Ne.symm hpI
      · exact Ne.symm hpC
      · exact Ne.symm hpD
      · exact hrest os q (by simp only [List.mem_cons]; exact hq)
    clear F N
    intro h₇ tk₈ r t₈ tk₉ n₇ F N hr0 hr1
    k_steps
    refine unstop (CompEnd.intro F N ((pl, PySem.W.listOf (List.toArray [Value.int ((2 + i + 1 : Nat) : Int) tk₉]) n₇) :: (L' + 1, ot) :: (L' + 1 + 1, os) :: (141, tabObj tps) :: led) ?_ off trivial ⟨tk₉, n₇, nsi ++ [97 + r], rfl, ints_snoc hys _ _, by rw [List.length_append, hnl]; rfl, fun n hn => ?_⟩)
    · walk_at "my sub"
    · rcases List.mem_append.mp hn with hn | hn
      · exact hnr n hn
      · rw [List.mem_singleton.mp hn]; omega
  case done =>
    clear F N hrg
    rintro ys news ⟨tki, ni, nsi, rfl, hys, hnl, hnr⟩
    unfold FinE
    intro D h tk F N o9
    k_steps
    rename Fr _ _ _ _ => F
    rename News _ _ _ _ => N
    obtain ⟨B, hB⟩ : ∃ B : List UInt8, nsi.map (fun n => n.toNat.toUInt8) = B := ⟨_, rfl⟩
    have hBl : B.length = mn := by rw [← hB, List.length_map, hnl]
    have hBB : byteArr nsi = B.toArray := by rw [← hB]; rfl
    rw [hBB] at F
    have hB20 : B.length ≤ 20 := by omega
    replace N : News g L' _ ((pl, PySem.W.listOf (List.toArray [Value.int ((2 + mn : Nat) : Int) tki]) ni) :: (L' + 1, ot) :: (L' + 1 + 1, os) :: (141, tabObj tps) :: led) := news_sub N (fun q hq => .tail _ hq)
    -- far, most, tries
    refine wpG_execs_cons (wpG_of ?_)
    k_steps
    · exact N.get (.tail _ (.tail _ (.tail _ (.tail _ hFm))))
    refine unstop (take_call spec X T F N (hsubl _) (hrest _) (by walk_at "my room") (by walk_at "my room") (by first | decide | omega) (by first | decide | omega) (by first | decide | omega) ?_)
    clear F N
    intro h₈ tk₈ far0 t₈ tk₉ n₈ F N hf0 hf1
    k_steps
    · exact N.get (.tail _ (.tail _ (.tail _ (.tail _ hFm))))
    refine unstop (take_call spec X T F N (hsubl _) (hrest _) (by walk_at "my room") (by walk_at "my room") (by first | decide | omega) (by first | decide | omega) (by first | decide | omega) ?_)
    clear F N
    intro h₉ tk₁₀ mo0 t₁₀ tk₁₁ n₉ F N ho0 ho1
    k_steps
    · exact N.get (.tail _ (.tail _ (.tail _ (.tail _ hFm))))
    refine unstop (take_call spec X T F N (hsubl _) (hrest _) (by walk_at "my room") (by walk_at "my room") (by first | decide | omega) (by first | decide | omega) (by first | decide | omega) ?_)
    clear F N
    intro h₁₀ tk₁₂ tr0 t₁₂ tk₁₃ n₁₀ F N ht0 ht1
    k_steps
    rename Fr _ _ _ _ => F
    rename News _ _ _ _ => N
    obtain ⟨mo, hmo⟩ : ∃ mo : Nat, 3 + mo0 = (mo : Int) := Int.eq_ofNat_of_zero_le (by omega)
    obtain ⟨tr, htr⟩ : ∃ tr : Nat, 1 + tr0 = (tr : Int) := Int.eq_ofNat_of_zero_le (by omega)
    obtain ⟨far, hfar⟩ : ∃ far : Int, 1 + far0 = far := ⟨_, rfl⟩
    have hmo3 : 3 ≤ mo := by omega
    have hmo10 : mo ≤ 10 := by omega
    have htr5 : tr ≤ 5 := by omega
    have hfar1 : 1 ≤ far := by omega
    have hfar20 : far ≤ 20 := by omega
    have hf0 : 0 ≤ far := Int.le_trans (by decide) hfar1
    have htr8 : tr ≤ 8 := Nat.le_trans htr5 (by decide)
    have hmz0 : (0 : Int) ≤ (mo : Int) := Int.natCast_nonneg _
    have hmz10 : (mo : Int) ≤ 10 := Int.ofNat_le.mpr hmo10
    rw [hmo, htr, hfar] at F
    replace N : News g L' _ [(141, tabObj tps)] := news_sub N (by
      intro q hq
      rw [List.mem_singleton.mp hq]
      exact .tail _ (.tail _ (.tail _ (.tail _ (.head _)))))
    replace F : ∃ m, (m (Str.ofString "many") = some (.int mn t₄) ∧ m (Str.ofString "far") = some (.int far tk₈) ∧ m (Str.ofString "most") = some (.int mo tk₁₀) ∧ m (Str.ofString "tries") = some (.int tr tk₁₂) ∧ ∃ tB, m (Str.ofString "octets") = some (.bytes B.toArray tB)) ∧ Fr g L' _ m :=
      ⟨_, ⟨by walk_at "my look", by walk_at "my look", by walk_at "my look", by walk_at "my look", _, by walk_at "my look"⟩, F⟩
    obtain ⟨m, ⟨b1, b2, b3, b4, tB, b5⟩, F⟩ := F
    clear spec hne hne2 hFm hFd hFI hLe hLs hp1 hp2 dt ds hrest hsubl o9 hys hnl hnr d1 d2 m1 hn hs hlen
    -- chains = Chains(octets)
    refine wpG_execs_cons (wpG_of ?_)
    k_steps
    refine unstop (c_chains X T F N (by walk_at "my room") (by walk_at "my room") ?_)
    clear F N
    intro c oh vs n h₁₁ tk₁₄ F N ok hlc
    have hc9 : @LT.lt Nat _ 141 c.dx := hlc (141, tabObj tps) (.head _)
    obtain ⟨q1, q2, q3⟩ := ok.lts
    have ha : c.adr = [c.x, c.dx, c.hd, c.er] := rfl
    replace N : News g L' h₁₁ ((c.x, instObj 99 c.dx) :: (c.dx, dictOf (chDict w.params B c.hd c.er c.tb c.t1 c.t2 c.t3) 3) :: (c.hd, oh) :: (c.er, PySem.W.listOf (List.toArray vs) n) :: (141, tabObj tps) :: []) := N
    k_steps
    -- best = []
    refine wpG_execs_cons (wpG_of ?_)
    k_steps
    rename (@LT.lt Nat _ c.x _ ∧ _) => l4
    rename Fr _ _ _ _ => F
    rename News _ _ _ _ => N
    refine name_first N fun bl hl => ?_
    subst hl
    have hsz := size_cast B
    -- the loop
    refine wpG_execs_cons (wpG_of ?_)
    k_steps
    refine unstop (for_inv (h₀ := g) (L := L') ?_)
    k_steps
    rename IsRange _ _ _ _ _ _ _ _ => hrg
    rename Fr _ _ _ _ => F
    rename News _ _ _ _ => N
    refine unstop (iter_range (n := mn + 1) (J := JLaw w B c far mo tr mn t₄ tk₈ tk₁₀ tk₁₂ tB bl tps)
      rfl hrg (small_one (by omega) (by omega) (by omega) (by omega)) (by rw [rangeSize_one]; split <;> omega) F (news_sub N ?hsub) ⟨0, oh, vs, n, [], 0, [], rfl, ok, Nat.le_refl _, .nil, (fun _ h => nomatch h), by walk_at "my look", by walk_at "my look", by walk_at "my look", by walk_at "my look", by walk_at "my look", by walk_at "my look", by walk_at "my look"⟩ ?hcl ?turn ?done)
    case hsub =>
      walk_at "my sub"
    case hcl =>
      rintro i m nw ⟨k, oh, vs, n, ws, nb, tl, rfl, ok, hki, hpr, htl, _⟩ q hq
      simp only [List.mem_cons] at hq
      rcases hq with rfl | rfl | rfl | rfl | rfl | rfl | hq
      · simp
      · simp
      · simp
      · show oh.cls ≠ _; rw [ok.cls]; simp
      · simp
      · show (tabObj tps).cls ≠ _; simp [tabObj]
      · rw [htl q hq]; simp
    case turn =>
      clear F N hrg ok b1 b2 b3 b4 b5
      rintro i ti h tk m nw o I hi ⟨k, oh, vs, n, ws, nb, tl, rfl, ok, hki, hpr, htl, b1, b2, b3, b4, b5, b6, b7⟩ hoI F N hI QT hQT
      have hib : i ≤ B.length := by omega
      have hi20 : i ≤ 20 := Nat.le_trans hib hB20
      have hiz0 : (0 : Int) ≤ (i : Int) := Int.natCast_nonneg _
      have hiz20 : (i : Int) ≤ 20 := Int.ofNat_le.mpr hi20
      have hizB : (i : Int) ≤ B.length := Int.ofNat_le.mpr hib
      have hin : i ≤ (i : Int).toNat := Nat.le_of_eq (Int.toNat_natCast i).symm
      have hk20 : k ≤ 20 := Nat.le_trans hki hi20
      have e0 : (0 : Int) + (i : Int) * 1 = (i : Int) := by omega
      rw [e0]
      refine wpAny_assign_Name (storeX_L F N ?_)
      clear F N
      intro h' F N
      k_steps
      -- chains.put(at)
      have hIc : I ∉ c.adr := by
        simp only [ha, List.mem_cons, List.not_mem_nil, or_false]
        rintro (e | e | e | e)
        · exact hI (c.x, _) (.tail _ (.head _)) e.symm
        · exact hI (c.dx, _) (.tail _ (.tail _ (.head _))) e.symm
        · exact hI (c.hd, _) (.tail _ (.tail _ (.tail _ (.head _)))) e.symm
        · exact hI (c.er, _) (.tail _ (.tail _ (.tail _ (.tail _ (.head _))))) e.symm
      have hbc : bl ∉ c.adr := by
        simp only [ha, List.mem_cons, List.not_mem_nil, or_false]
        rintro (e | e | e | e) <;> (have e' : @Eq Nat _ _ := e; first | exact absurd e' (by k_ne) | omega)
      have h1c : (141 : Addr) ∉ c.adr := by
        simp only [ha, List.mem_cons, List.not_mem_nil, or_false]
        rintro (e | e | e | e) <;> (have e' : @Eq Nat _ _ := e; first | exact absurd e' (by k_ne) | omega)
      have hs1 : ∀ q ∈ chLed w.params B c oh vs n, q ∈ (I, o) :: (bl, PySem.W.listOf (List.toArray ws) nb) :: (c.x, instObj 99 c.dx) :: (c.dx, dictOf (chDict w.params B c.hd c.er c.tb c.t1 c.t2 c.t3) 3) :: (c.hd, oh) :: (c.er, PySem.W.listOf (List.toArray vs) n) :: (141, tabObj tps) :: tl :=
        fun q hq => .tail _ (.tail _ (List.mem_append_left ((141, tabObj tps) :: tl) hq))
      have fr1 := ch_fresh N hs1
      refine unstop (c_put (c := c) (k := k) X T F.keep hB20 (by first | assumption | omega) (by first | assumption | omega) (by walk_at "my room") (by walk_at "my room") (fun b h => (fr1 b h).1) (ch_make (n := n) ok fun q hq => (N q (hs1 q hq)).1) ?_)
      intro h₂ tk₂ hst₂ hC₂
      rw [Int.toNat_natCast, Nat.max_eq_right hki] at hC₂
      obtain ⟨oh₂, vs₂, n₂, ok₂, F₂, N₂⟩ := ch_after (rest := (I, o) :: (bl, PySem.W.listOf (List.toArray ws) nb) :: (141, tabObj tps) :: tl) F N hs1 hst₂ hC₂ (by
        intro q hq
        simp only [List.mem_cons] at hq
        rcases hq with rfl | rfl | rfl | hq
        · exact ⟨.head _, hIc⟩
        · exact ⟨.tail _ (.head _), hbc⟩
        · exact ⟨.tail _ (.tail _ (.tail _ (.tail _ (.tail _ (.tail _ (.head _)))))), h1c⟩
        · have hm : q ∈ (I, o) :: (bl, PySem.W.listOf (List.toArray ws) nb) :: (c.x, instObj 99 c.dx) :: (c.dx, dictOf (chDict w.params B c.hd c.er c.tb c.t1 c.t2 c.t3) 3) :: (c.hd, oh) :: (c.er, PySem.W.listOf (List.toArray vs) n) :: (141, tabObj tps) :: tl :=
            .tail _ (.tail _ (.tail _ (.tail _ (.tail _ (.tail _ (.tail _ hq))))))
          exact ⟨hm, tup_off (c := c) N hs1 ok.cls hm (htl q hq)⟩)
      clear F N hst₂ hC₂ fr1 ok hs1
      replace N₂ : News g L' h₂ ((c.x, instObj 99 c.dx) :: (c.dx, dictOf (chDict w.params B c.hd c.er c.tb c.t1 c.t2 c.t3) 3) :: (c.hd, oh₂) :: (c.er, PySem.W.listOf (List.toArray vs₂) n₂) :: (I, o) :: (bl, PySem.W.listOf (List.toArray ws) nb) :: (141, tabObj tps) :: tl) := N₂
      k_steps
      -- due = _law_ways(octets, at, far, most, tries)
      refine unstop (c_law_ways X T F₂.keep hB20 hib (by first | assumption | omega) hfar20 (by first | assumption | omega) hmo3 hmo10 (by walk_at "my room") (by walk_at "my room") ?_)
      intro h₃ tk₃ dl dws dn tl2 hst₃ hd1 hd2 hd3 hpd
      have F := fr_after0 F₂ hst₃
      have N := news_cons' F₂ (news_after0 N₂ hst₃) hd1 hd2
      have hdn : ∀ q ∈ (c.x, instObj 99 c.dx) :: (c.dx, dictOf (chDict w.params B c.hd c.er c.tb c.t1 c.t2 c.t3) 3) :: (c.hd, oh₂) :: (c.er, PySem.W.listOf (List.toArray vs₂) n₂) :: (I, o) :: (bl, PySem.W.listOf (List.toArray ws) nb) :: (141, tabObj tps) :: tl, @Ne Nat q.1 dl := news_ne N₂ hd1
      have ht2 : ∀ q ∈ tl2, q.2.cls = .type "tuple" := fun q hq => (hd3 q hq).2.2
      obtain ⟨tt, N, hpr, hpd, htt⟩ : ∃ tt, News g L' h₃ ((dl, PySem.W.listOf (List.toArray dws) dn) :: (c.x, instObj 99 c.dx) :: (c.dx, dictOf (chDict w.params B c.hd c.er c.tb c.t1 c.t2 c.t3) 3) :: (c.hd, oh₂) :: (c.er, PySem.W.listOf (List.toArray vs₂) n₂) :: (I, o) :: (bl, PySem.W.listOf (List.toArray ws) nb) :: (141, tabObj tps) :: tt) ∧
          PairsIn tt ws ((List.range i).map fun a => bestI B far mo tr a) ∧ PairsIn tt dws (waysI B far mo tr i) ∧ ∀ q ∈ tt, q.2.cls = .type "tuple" := by
        refine ⟨tl2 ++ tl, fun q hq => ?_, hpr.mono fun q hq => List.mem_append_right _ hq, hpd.mono fun q hq => List.mem_append_left _ hq, fun q hq => ?_⟩
        · by_cases hm : q ∈ tl2
          · exact news_cons' F₂ (news_after0 N₂ hst₃) (hd3 q hm).2.1 (hd3 q hm).1 q (.head _)
          · refine N q ?_
            simp only [List.mem_cons, List.mem_append, hm, false_or] at hq ⊢
            exact hq
        · rcases List.mem_append.mp hq with hq | hq
          · exact ht2 q hq
          · exact htl q hq
      have hdl : @Ne Nat bl dl := hdn (bl, _) (.tail _ (.tail _ (.tail _ (.tail _ (.tail _ (.head _))))))
      have hdI : @Ne Nat I dl := hdn (I, _) (.tail _ (.tail _ (.tail _ (.tail _ (.head _)))))
      have hdc : dl ∉ c.adr := by
        simp only [ha, List.mem_cons, List.not_mem_nil, or_false]
        rintro (e | e | e | e)
        · exact hdn (c.x, _) (.head _) e.symm
        · exact hdn (c.dx, _) (.tail _ (.head _)) e.symm
        · exact hdn (c.hd, _) (.tail _ (.tail _ (.head _))) e.symm
        · exact hdn (c.er, _) (.tail _ (.tail _ (.tail _ (.head _)))) e.symm
      clear F₂ N₂ hst₃ hd1 hd2 hd3 ht2 hdn
      k_steps
      rename Fr _ _ _ _ => F
      rename News _ _ _ _ => N
      -- chains.places(at, far, tries) != _law_backs(octets, at, far, tries)
      have hs2 : ∀ q ∈ chLed w.params B c oh₂ vs₂ n₂, q ∈ (dl, PySem.W.listOf (List.toArray dws) dn) :: (c.x, instObj 99 c.dx) :: (c.dx, dictOf (chDict w.params B c.hd c.er c.tb c.t1 c.t2 c.t3) 3) :: (c.hd, oh₂) :: (c.er, PySem.W.listOf (List.toArray vs₂) n₂) :: (I, o) :: (bl, PySem.W.listOf (List.toArray ws) nb) :: (141, tabObj tps) :: tt :=
        fun q hq => .tail _ (List.mem_append_left ((I, o) :: (bl, PySem.W.listOf (List.toArray ws) nb) :: (141, tabObj tps) :: tt) hq)
      have fr2 := ch_fresh N hs2
      refine unstop (c_places (c := c) (k := i) X T F.keep hB20 (by first | assumption | omega) (by first | assumption | omega) (by first | assumption | omega) (by first | assumption | omega) hfar20 (by first | assumption | omega) (by walk_at "my room") (by walk_at "my room") (fun b h => (fr2 b h).1) (ch_make (n := n₂) ok₂ fun q hq => (N q (hs2 q hq)).1) ?_)
      intro h₄ tk₄ pl1 pws pn hst₄ hp1 hp2 hpi
      rw [places_eq hib hB20 (by first | assumption | omega)] at hpi
      have F₂ := fr_after0 F hst₄
      have N₂ := news_cons' F (news_after0 N hst₄) hp1 hp2
      clear F N hst₄ hp1 hp2 fr2 hs2
      k_steps
      refine unstop (c_law_backs X T F₂.keep hB20 hib (by first | assumption | omega) hfar20 (by first | assumption | omega) (by walk_at "my room") (by walk_at "my room") ?_)
      intro h₅ tk₅ pl2 pws2 pn2 hst₅ hp1 hp2 hpi2
      have F := fr_after0 F₂ hst₅
      have N := news_cons' F₂ (news_after0 N₂ hst₅) hp1 hp2
      clear F₂ N₂ hst₅ hp1 hp2
      k_steps
      refine unstop (ke_ne_ints ⟨_, N.get (.tail _ (.head _)), rfl, _, rfl⟩ ⟨_, N.get (.head _), rfl, _, rfl⟩ hpi hpi2 (by walk_at "my room") ?_)
      rw [decide_eq_true rfl]
      k_steps
      -- matches_by_length(..) != due
      replace N : News g L' h₅ ((c.x, instObj 99 c.dx) :: (c.dx, dictOf (chDict w.params B c.hd c.er c.tb c.t1 c.t2 c.t3) 3) :: (c.hd, oh₂) :: (c.er, PySem.W.listOf (List.toArray vs₂) n₂) :: (dl, PySem.W.listOf (List.toArray dws) dn) :: (I, o) :: (bl, PySem.W.listOf (List.toArray ws) nb) :: (141, tabObj tps) :: tt) := news_sub N (by
        walk_at "my sub")
      have hs3 : ∀ (oh : Obj) (vs : List Value) (n : Nat), ∀ q ∈ chLed w.params B c oh vs n, q ∈ (c.x, instObj 99 c.dx) :: (c.dx, dictOf (chDict w.params B c.hd c.er c.tb c.t1 c.t2 c.t3) 3) :: (c.hd, oh) :: (c.er, PySem.W.listOf (List.toArray vs) n) :: (dl, PySem.W.listOf (List.toArray dws) dn) :: (I, o) :: (bl, PySem.W.listOf (List.toArray ws) nb) :: (141, tabObj tps) :: tt :=
        fun oh vs n q hq => List.mem_append_left ((dl, PySem.W.listOf (List.toArray dws) dn) :: (I, o) :: (bl, PySem.W.listOf (List.toArray ws) nb) :: (141, tabObj tps) :: tt) hq
      have hrest : ∀ (tt : List (Addr × Obj)) (oh : Obj) (vs : List Value) (n : Nat) (h : Heap), oh.cls = .type "dict" → (∀ q ∈ tt, q.2.cls = .type "tuple") →
          News g L' h ((c.x, instObj 99 c.dx) :: (c.dx, dictOf (chDict w.params B c.hd c.er c.tb c.t1 c.t2 c.t3) 3) :: (c.hd, oh) :: (c.er, PySem.W.listOf (List.toArray vs) n) :: (dl, PySem.W.listOf (List.toArray dws) dn) :: (I, o) :: (bl, PySem.W.listOf (List.toArray ws) nb) :: (141, tabObj tps) :: tt) →
          ∀ q ∈ (dl, PySem.W.listOf (List.toArray dws) dn) :: (I, o) :: (bl, PySem.W.listOf (List.toArray ws) nb) :: (141, tabObj tps) :: tt,
          q ∈ (c.x, instObj 99 c.dx) :: (c.dx, dictOf (chDict w.params B c.hd c.er c.tb c.t1 c.t2 c.t3) 3) :: (c.hd, oh) :: (c.er, PySem.W.listOf (List.toArray vs) n) :: (dl, PySem.W.listOf (List.toArray dws) dn) :: (I, o) :: (bl, PySem.W.listOf (List.toArray ws) nb) :: (141, tabObj tps) :: tt ∧ q.1 ∉ c.adr := by
        intro tt oh vs n h hoc htt N q hq
        have hm : q ∈ (c.x, instObj 99 c.dx) :: (c.dx, dictOf (chDict w.params B c.hd c.er c.tb c.t1 c.t2 c.t3) 3) :: (c.hd, oh) :: (c.er, PySem.W.listOf (List.toArray vs) n) :: (dl, PySem.W.listOf (List.toArray dws) dn) :: (I, o) :: (bl, PySem.W.listOf (List.toArray ws) nb) :: (141, tabObj tps) :: tt :=
          .tail _ (.tail _ (.tail _ (.tail _ hq)))
        refine ⟨hm, ?_⟩
        simp only [List.mem_cons] at hq
        rcases hq with rfl | rfl | rfl | rfl | hq
        · exact hdc
        · exact hIc
        · exact hbc
        · exact h1c
        · exact tup_off (c := c) N (fun q hq => List.mem_append_left ((dl, PySem.W.listOf (List.toArray dws) dn) :: (I, o) :: (bl, PySem.W.listOf (List.toArray ws) nb) :: (141, tabObj tps) :: tt) hq) hoc hm (htt q hq)
      have fr3 := ch_fresh N (hs3 oh₂ vs₂ n₂)
      refine unstop (c_matches_by_length (c := c) (k := i) X T F.keep hB20 (by first | assumption | omega) (by first | assumption | omega) (by first | assumption | omega) (by first | assumption | omega) hfar20 (by first | assumption | omega) (by first | assumption | omega) (by first | assumption | omega) (by walk_at "my room") (by walk_at "my room") (fun b h => (fr3 b h).1) (ch_make (n := n₂) ok₂ fun q hq => (N q (hs3 _ _ _ q hq)).1) ?_)
      intro h₆ tk₆ ml mws mn2 tl3 hst₆ hC₆ hm1 hm2 hm3 hpm
      rw [Int.toNat_natCast] at hC₆ hpm
      rw [ways_eq hib hB20 (by first | assumption | omega) hmo3] at hpm
      obtain ⟨oh₃, vs₃, n₃, ok₃, F₃, N₃⟩ := ch_after F N (hs3 oh₂ vs₂ n₂) hst₆ hC₆ (hrest tt oh₂ vs₂ n₂ h₅ ok₂.cls htt N)
      have N₄ := news_merge F (news_cons' F N₃ hm1 hm2) hm3
      have hpm' := hpm.mono (tl' := tt ++ tl3) fun q hq => List.mem_append_right _ hq
      replace hpr := hpr.mono (tl' := tt ++ tl3) fun q hq => List.mem_append_left _ hq
      replace hpd := hpd.mono (tl' := tt ++ tl3) fun q hq => List.mem_append_left _ hq
      replace htt := tup_all htt fun q hq => (hm3 q hq).2.2
      have hml : ∀ q ∈ (c.x, instObj 99 c.dx) :: (c.dx, dictOf (chDict w.params B c.hd c.er c.tb c.t1 c.t2 c.t3) 3) :: (c.hd, oh₂) :: (c.er, PySem.W.listOf (List.toArray vs₂) n₂) :: (dl, PySem.W.listOf (List.toArray dws) dn) :: (I, o) :: (bl, PySem.W.listOf (List.toArray ws) nb) :: (141, tabObj tps) :: tt, @Ne Nat q.1 ml := news_ne N hm1
      replace N₄ : News g L' h₆ ((ml, PySem.W.listOf (List.toArray mws) mn2) :: (c.x, instObj 99 c.dx) :: (c.dx, dictOf (chDict w.params B c.hd c.er c.tb c.t1 c.t2 c.t3) 3) :: (c.hd, oh₃) :: (c.er, PySem.W.listOf (List.toArray vs₃) n₃) :: (dl, PySem.W.listOf (List.toArray dws) dn) :: (I, o) :: (bl, PySem.W.listOf (List.toArray ws) nb) :: (141, tabObj tps) :: (tt ++ tl3)) := N₄
      generalize tt ++ tl3 = tt3 at N₄ hpm' hpr hpd htt
      clear F N N₃ hst₆ hC₆ hm1 hm2 hm3 fr3 ok₂ hpm
      k_steps
      have h6t : ∀ q ∈ tt3, h₆.get? q.1 = some q.2 := fun q hq => (N₄ q (.tail _ (.tail _ (.tail _ (.tail _ (.tail _ (.tail _ (.tail _ (.tail _ (.tail _ hq)))))))))).1
      refine unstop (pairs_ne (N₄.get (.head _)) (N₄.get (.tail _ (.tail _ (.tail _ (.tail _ (.tail _ (.head _))))))) h6t h6t hpm' hpd (by walk_at "my room") ?_)
      k_steps
      -- match_at(..)
      have N : News g L' h₆ ((c.x, instObj 99 c.dx) :: (c.dx, dictOf (chDict w.params B c.hd c.er c.tb c.t1 c.t2 c.t3) 3) :: (c.hd, oh₃) :: (c.er, PySem.W.listOf (List.toArray vs₃) n₃) :: (dl, PySem.W.listOf (List.toArray dws) dn) :: (I, o) :: (bl, PySem.W.listOf (List.toArray ws) nb) :: (141, tabObj tps) :: tt3) := news_sub N₄ fun q hq => .tail _ hq
      have hs4 : ∀ q ∈ chLed w.params B c oh₃ vs₃ n₃, q ∈ (c.x, instObj 99 c.dx) :: (c.dx, dictOf (chDict w.params B c.hd c.er c.tb c.t1 c.t2 c.t3) 3) :: (c.hd, oh₃) :: (c.er, PySem.W.listOf (List.toArray vs₃) n₃) :: (dl, PySem.W.listOf (List.toArray dws) dn) :: (I, o) :: (bl, PySem.W.listOf (List.toArray ws) nb) :: (141, tabObj tps) :: tt3 :=
        fun q hq => List.mem_append_left ((dl, PySem.W.listOf (List.toArray dws) dn) :: (I, o) :: (bl, PySem.W.listOf (List.toArray ws) nb) :: (141, tabObj tps) :: tt3) hq
      clear N₄ hml
      have fr4 := ch_fresh N hs4
      refine unstop (c_match_at (c := c) (k := i) X T F₃.keep hB20 (by first | assumption | omega) (by first | assumption | omega) (by first | assumption | omega) (by first | assumption | omega) hfar20 (by first | assumption | omega) (by first | assumption | omega) (by first | assumption | omega) (by walk_at "my room") (by walk_at "my room") (fun b h => (fr4 b h).1) (ch_make (n := n₃) ok₃ fun q hq => (N q (hs4 q hq)).1) ?_)
      intro h₇ tk₇ ma t₇ u₇ hst₇ hC₇ hm1 hm2
      rw [Int.toNat_natCast] at hC₇ hm2
      replace hm2 : h₇.get? ma = some (tup2 (bestI B far mo tr i).1 t₇ (bestI B far mo tr i).2 u₇) := hm2
      obtain ⟨oh₄, vs₄, n₄', ok₄, F₅, N₅⟩ := ch_after F₃ N hs4 hst₇ hC₇ (hrest tt3 oh₃ vs₃ n₃ h₆ ok₃.cls htt N)
      have N₆ := news_cons' F₃ N₅ hm1 hm2
      have hma : @Ne Nat bl ma := news_ne N hm1 (bl, _) (.tail _ (.tail _ (.tail _ (.tail _ (.tail _ (.tail _ (.head _)))))))
      replace N₆ : News g L' h₇ ((ma, tup2 (bestI B far mo tr i).1 t₇ (bestI B far mo tr i).2 u₇) :: (c.x, instObj 99 c.dx) :: (c.dx, dictOf (chDict w.params B c.hd c.er c.tb c.t1 c.t2 c.t3) 3) :: (c.hd, oh₄) :: (c.er, PySem.W.listOf (List.toArray vs₄) n₄') :: (dl, PySem.W.listOf (List.toArray dws) dn) :: (I, o) :: (bl, PySem.W.listOf (List.toArray ws) nb) :: (141, tabObj tps) :: tt3) := N₆
      clear N F₃ N₅ hst₇ hC₇ hm1 hm2 fr4 ok₃ hs4
      k_steps
      rename Fr _ _ _ _ => F
      rename News _ _ _ _ => N
      have hdl9 : dws.length ≤ 8 := by
        rw [hpd.length]
        exact Nat.le_trans (List.length_filterMap_le _ _) (by rw [List.length_range]; exact Nat.sub_le_sub_right hmo10 2)
      have hz9 : (vs : List Value) → vs.length = 1 → vs.length + dws.length ≤ sizeLine := fun vs h => Nat.le_trans (show vs.length + dws.length ≤ 9 by omega) (by decide)
      refine add_lists_N (vs := [Value.ref _]) (ws := dws) F N ⟨_, N.get (.head _), rfl, _, rfl⟩ ⟨_, N.get (a := dl) (by k_mem), rfl, _, rfl⟩ ?_ (hz9 _ rfl)
      clear F N
      intro h₈ al hal F N -- MARK1
      k_steps
      rename Fr _ _ _ _ => F
      rename News _ _ _ _ => N
      obtain ⟨va, vt, vu, hv, hvm⟩ := last_pair hpd -- MARK2
      refine unstop <| last_news N (.head _) hv ?_ -- MARK3
      have hvn : ∀ (q : Addr × Obj), q ∈ (va, tup2 (lastI B far mo tr i).1 vt (lastI B far mo tr i).2 vu) :: [] → h₈.get? q.1 = some q.2 := by
        intro q hq
        rw [List.mem_singleton.mp hq]
        refine N.get ?_
        rcases List.mem_cons.mp hvm with e | e
        · rw [e]; exact .tail _ (.tail _ (.head _))
        · exact .tail _ (.tail _ (.tail _ (.tail _ (.tail _ (.tail _ (.tail _ (.tail _ (.tail _ (.tail _ (.tail _ (.tail _ e)))))))))))
      have hbe := best_eq (far := far) (tr := tr) hib hB20 (by first | assumption | omega) hmo3
      -- MARK4
      refine unstop (pair_ne2 (N.get (a := ma) (by k_mem)) (hbe ▸ hvn _ (.head _)) (by walk_at "my room") ?_)
      -- best.append(([(0, 0)] + due)[-1])
      replace N : News g L' h₈ ((bl, PySem.W.listOf (List.toArray ws) nb) :: (c.x, instObj 99 c.dx) :: (c.dx, dictOf (chDict w.params B c.hd c.er c.tb c.t1 c.t2 c.t3) 3) :: (c.hd, oh₄) :: (c.er, PySem.W.listOf (List.toArray vs₄) n₄') :: (dl, PySem.W.listOf (List.toArray dws) dn) :: (I, o) :: (141, tabObj tps) :: tt3) := news_sub N (by
        walk_at "my sub")
      have htln : ∀ q ∈ tt3, @Ne Nat q.1 bl := fun q hq => news_cls_ne N (.tail _ (.tail _ (.tail _ (.tail _ (.tail _ (.tail _ (.tail _ (.tail _ hq)))))))) (.head _) (by rw [htt q hq]; simp)
      clear hv hvm hvn va vt vu hpm' hal h6t hma
      have hwl : ws.length ≤ 21 := by rw [hpr.length, List.length_map, List.length_range]; omega
      k_steps
      -- MARK5
      rename Fr _ _ _ _ => F
      rename News _ _ _ _ => N
      obtain ⟨va, vt, vu, hv, hvm⟩ := last_pair_N N hpd
      refine unstop <| last_news N (.head _) hv ?_
      replace N := news_sub N fun q hq => List.Mem.tail _ hq
      have hbI : @Ne Nat bl I := hI (bl, _) (.head _)
      have hb1 : @Ne Nat bl 141 := by omega
      k_steps
      -- MARK6
      rename Fr _ _ _ _ => F
      rename News _ _ _ _ => N
      refine hQT _ _ <| LEnd.intro F (news_sub N ?_) ⟨_, rfl, i, oh₄, vs₄, n₄', ws ++ [.ref va], nb + 1, _, rfl, ok₄, by omega, hpr.more (fun q hq => .tail _ hq) hbe hvm, ?_,
        by walk_at "my look", by walk_at "my look", by walk_at "my look", by walk_at "my look", by walk_at "my look", by walk_at "my look", by walk_at "my look"⟩
      · walk_at "my sub"
      · intro q hq
        rcases List.mem_cons.mp hq with rfl | hq
        · rfl
        · exact htt q hq
    case done =>
      clear F N hrg ok b1 b2 b3 b4 b5
      rintro h tk m nw F N ⟨k, oh, vs, n, ws, nb, tl, rfl, ok, hki, hpr, htl, b1, b2, b3, b4, b5, b6, b7⟩
      dsimp only
      -- parts = [], at = 0
      refine wpG_execs_cons (wpG_of ?_)
      k_steps
      refine wpG_execs_cons (wpG_of ?_)
      k_steps
      rename Fr _ _ _ _ => F
      rename News _ _ _ _ => N
      refine name_first N fun pl hpl => ?_
      subst hpl
      refine wpG_execs_cons (wpG_of ?_)
      k_steps
      refine unstop (while_inv (JPart w B c far mo tr mn t₄ tk₈ tk₁₀ tk₁₂ tB bl pl tps ws nb oh vs n tl) B.length F (news_sub N ?hsub)
        ⟨[], 0, [], 0, rfl, .nil, Nat.le_refl _, Nat.zero_le _, rfl, rfl, by walk_at "my look", by walk_at "my look", by walk_at "my look", by walk_at "my look", by walk_at "my look", by walk_at "my look", by walk_at "my look", by walk_at "my look", ⟨_, _, by walk_at "my look", rfl⟩⟩ ?_)
      case hsub =>
        walk_at "my sub"
      clear F N b1 b2 b3 b4 b5 b6 b7
      rintro nn h' tk' m' nw' F N ⟨pws, n₁, ps, a, rfl, hps, hpl, haB, hfi, hnn, b1, b2, b3, b4, b5, b6, b7, b8, ⟨va, ta, b9, hva⟩⟩ QT hQT
      have htln : ∀ q ∈ tl, @Ne Nat q.1 pl := fun q hq => news_cls_ne N (.tail _ (.tail _ (.tail _ (.tail _ (.tail _ (.tail _ (.tail _ hq))))))) (.head _) (by rw [htl q hq]; simp)
      have hpsl := hps.length
      k_steps
      · subst hva
        rename Fr _ _ _ _ => F
        rename News _ _ _ _ => N
        have hlt : a < B.length := Nat.lt_of_lt_of_eq (Int.ofNat_lt.mp (by assumption)) hBl.symm
        have haz0 : (0 : Int) ≤ (a : Int) := Int.natCast_nonneg _
        have haz6 : (a : Int) < 1000000 := Int.lt_of_le_of_lt (Int.ofNat_le.mpr (Nat.le_trans haB hB20)) (by decide)
        have hpw20 : pws.length ≤ 20 := hpsl ▸ Nat.le_trans hpl (Nat.le_trans haB hB20)
        rw [findI, if_pos hlt] at hfi
        have hbb := best_bound (far := far) (tr := tr) haB hmo3
        obtain ⟨x, tx, ux, hwx, hmx⟩ := pairs_at hpr (i := a) (d := bestI B far mo tr a) (by rw [List.getElem?_map, List.getElem?_range (by omega)]; rfl)
        have hwx : ws[((a : Nat) : Int).toNat]? = some (.ref x) := by rw [Int.toNat_natCast]; exact hwx
        generalize bestI B far mo tr a = d at hfi hbb hmx
        have hxl : @Ne Nat x pl := htln _ hmx
        replace N : News g L' _ ((pl, PySem.W.listOf (List.toArray pws) n₁) :: (x, tup2 d.1 tx d.2 ux) :: (bl, PySem.W.listOf (List.toArray ws) nb) :: (c.x, instObj 99 c.dx) :: (c.dx, dictOf (chDict w.params B c.hd c.er c.tb c.t1 c.t2 c.t3) 3) :: (c.hd, oh) :: (c.er, PySem.W.listOf (List.toArray vs) n) :: (141, tabObj tps) :: tl) := news_sub N (by
          walk_at "my sub")
        refine unstop (item_news N (a := bl) (.tail _ (.tail _ (.head _))) haz0 haz6 hwx ?_)
        k_steps
        · have hd0 : 0 < d.1 := by assumption
          rw [if_pos hd0] at hfi
          refine unstop (item_news N (a := bl) (.tail _ (.tail _ (.head _))) haz0 haz6 hwx ?_)
          k_steps
          rename Fr _ _ _ _ => F
          rename News _ _ _ _ => N
          refine unstop (item_news N (a := bl) (by k_mem) haz0 haz6 hwx ?_)
          k_steps
          rename Fr _ _ _ _ => F
          rename News _ _ _ _ => N
          refine hQT _ _ <| LEnd.intro F (news_sub N ?_) ⟨B.length - (a + d.1.toNat), go_on hlt hnn hd0, pws ++ [.ref x], n₁ + 1, ps ++ [.inr d], a + d.1.toNat, rfl, hps.snoc (.pair hmx), by rw [List.length_append, List.length_singleton]; exact len_on hpl hd0, hbb.2,
            by rw [← hfi, List.append_assoc]; rfl, rfl,
            by walk_at "my look", by walk_at "my look", by walk_at "my look", by walk_at "my look", by walk_at "my look", by walk_at "my look", by walk_at "my look", by walk_at "my look", ⟨_, _, by walk_at "my look", by rw [if_neg (show ¬ 1 > d.1 from Int.not_lt.mpr hd0)]; exact to_add hd0⟩⟩
          walk_at "my sub"
        · have hd0 : ¬ 0 < d.1 := by assumption
          rw [if_neg hd0] at hfi
          rename Fr _ _ _ _ => F
          rename News _ _ _ _ => N
          refine unstop (item_news N (a := bl) (by k_mem) haz0 haz6 hwx ?_)
          k_steps
          rename Fr _ _ _ _ => F
          rename News _ _ _ _ => N
          obtain ⟨t9, hl9⟩ : ∃ t9, Heap.get? _ pl = some (PySem.W.listOf (List.toArray (pws ++ [.int (byteI B a) t9])) (n₁ + 1)) := ⟨_, N.get (a := pl) (by k_mem)⟩
          refine hQT _ _ <| LEnd.intro F (news_reput N hl9 (by k_mem) ?_) ⟨B.length - (a + 1), go_one hlt hnn, pws ++ [.int (byteI B a) t9], n₁ + 1, ps ++ [.inl (byteI B a)], a + 1, rfl, hps.snoc .oct, by rw [List.length_append, List.length_singleton]; exact Nat.succ_le_succ hpl, hlt,
            by rw [← hfi, List.append_assoc]; rfl, rfl,
            by walk_at "my look", by walk_at "my look", by walk_at "my look", by walk_at "my look", by walk_at "my look", by walk_at "my look", by walk_at "my look", by walk_at "my look", ⟨_, _, by walk_at "my look", by rw [if_pos (show 1 > d.1 from Int.lt_add_one_of_le (Int.not_lt.mp hd0))]; rfl⟩⟩
          walk_at "my sub"
      · subst hva
        rename Fr _ _ _ _ => F
        rename News _ _ _ _ => N
        have hlt : ¬ a < B.length := by omega
        rw [findI, if_neg hlt, List.append_nil] at hfi
        subst hfi
        dsimp only
        -- found = find_matches(octets, far, most, tries)
        refine wpG_execs_cons (wpG_of ?_)
        k_steps
        refine unstop (c_find_matches X T F.keep hB20 (by first | assumption | omega) hfar20 (by first | assumption | omega) (by first | assumption | omega) (by first | assumption | omega) (by walk_at "my room") (by walk_at "my room") ?_)
        intro h₂ tk₂ fl fws fn tl2 hst hf1 hf2 hf3 hfp
        have F₂ := fr_after0 F hst
        have N₂ := news_after0 N hst
        have hnf : ∀ q ∈ (pl, PySem.W.listOf (List.toArray pws) n₁) :: (bl, PySem.W.listOf (List.toArray ws) nb) :: (c.x, instObj 99 c.dx) :: (c.dx, dictOf (chDict w.params B c.hd c.er c.tb c.t1 c.t2 c.t3) 3) :: (c.hd, oh) :: (c.er, PySem.W.listOf (List.toArray vs) n) :: (141, tabObj tps) :: tl, @Ne Nat q.1 fl := news_ne N hf1
        replace N₂ : News g L' h₂ ((fl, PySem.W.listOf (List.toArray fws) fn) :: (pl, PySem.W.listOf (List.toArray pws) n₁) :: (c.x, instObj 99 c.dx) :: (c.dx, dictOf (chDict w.params B c.hd c.er c.tb c.t1 c.t2 c.t3) 3) :: (141, tabObj tps) :: (tl ++ tl2)) := by
          intro q hq
          simp only [List.mem_cons, List.mem_append] at hq
          rcases hq with rfl | rfl | rfl | rfl | rfl | hq | hq
          · exact news_cons' F N₂ hf1 hf2 _ (.head _)
          · exact N₂ _ (.head _)
          · exact N₂ _ (.tail _ (.tail _ (.head _)))
          · exact N₂ _ (.tail _ (.tail _ (.tail _ (.head _))))
          · exact N₂ _ (.tail _ (.tail _ (.tail _ (.tail _ (.tail _ (.tail _ (.head _)))))))
          · exact N₂ _ (.tail _ (.tail _ (.tail _ (.tail _ (.tail _ (.tail _ (.tail _ hq)))))))
          · exact news_cons' F N₂ (hf3 q hq).2.1 (hf3 q hq).1 _ (.head _)
        replace hfp := hfp.mono (tl' := tl ++ tl2) fun q hq => List.mem_append_right _ hq
        replace hps := hps.mono (tl' := tl ++ tl2) fun q hq => List.mem_append_left _ hq
        replace htl := tup_all htl fun q hq => (hf3 q hq).2.2
        have hfx : @Ne Nat c.x fl := hnf (c.x, _) (.tail _ (.tail _ (.head _)))
        have hfd : @Ne Nat c.dx fl := hnf (c.dx, _) (.tail _ (.tail _ (.tail _ (.head _))))
        have hf141 : @Ne Nat 141 fl := hnf (141, _) (.tail _ (.tail _ (.tail _ (.tail _ (.tail _ (.tail _ (.head _)))))))
        clear F N hst hf1 hf2 hf3 htln
        generalize tl ++ tl2 = tt at N₂ hfp hps htl
        k_steps
        rename Fr _ _ _ _ => F
        rename News _ _ _ _ => N
        -- return
        refine wpG_execs_cons (wpG_Return (wpG_And3 ?_))
        k_steps
        have hh : ∀ q ∈ tt, Heap.get? _ q.1 = some q.2 := fun q hq => (N q (.tail _ (.tail _ (.tail _ (.tail _ (.tail _ hq)))))).1
        refine unstop (parts_eq (N.get (.head _)) (N.get (.tail _ (.head _))) hh hh hfp hps (by walk_at "my room") ?_)
        k_steps
        refine wpG_Compare1 (CallG_ ?_)
        k_steps
        obtain ⟨o139, h139, fd, hfdat⟩ := fn_139 w
        refine callWithG_def (o := o139) hfdat ?_
        k_steps
        · exact F.keep _ _ (X _ _ h139)
        rename Fr _ _ _ _ => F
        rename News _ _ _ _ => N
        refine c_expanded (tl := tt) (pn := fn) X T F.keep hB20 (parse_find (far := far) (tr := tr) hB20 (by first | assumption | omega) hmo3) hfp (by walk_at "my room") (by walk_at "my room") ?hTt htl ?_
        · intro q hq
          have hm := N q (by
            rcases List.mem_cons.mp hq with rfl | hq
            · exact .head _
            · exact .tail _ (.tail _ (.tail _ (.tail _ (.tail _ hq)))))
          exact ⟨hm.2.2, hm.1⟩
        intro h₃ tk₃ t₃ hst₃
        have hcls : ∀ (y : Addr × Obj), y ∈ (c.x, instObj 99 c.dx) :: (c.dx, dictOf (chDict w.params B c.hd c.er c.tb c.t1 c.t2 c.t3) 3) :: (141, tabObj tps) :: [] → @Ne Nat y.1 fl → y.2.cls ≠ .type "tuple" → y.1 ∉ fl :: tt.map (·.1) := by
          intro y hy h1 h2 h3
          rcases List.mem_cons.mp h3 with e | e
          · exact h1 e
          · obtain ⟨r, hr, e⟩ := List.mem_map.mp e
            refine news_cls_ne N (.tail _ (.tail _ (.tail _ (.tail _ (.tail _ hr))))) (.tail _ (.tail _ (List.mem_append_left tt hy))) ?_ e
            rw [htl r hr]
            exact Ne.symm h2
        have F₃ := fr_after F hst₃ (fun a ha => by
          rcases List.mem_cons.mp ha with rfl | ha
          · exact (N _ (.head _)).2.2
          · obtain ⟨r, hr, rfl⟩ := List.mem_map.mp ha
            exact (N r (.tail _ (.tail _ (.tail _ (.tail _ (.tail _ hr)))))).2.2) (fun ha => by
          rcases List.mem_cons.mp ha with e | ha
          · exact (N _ (.head _)).2.1 e.symm
          · obtain ⟨r, hr, e⟩ := List.mem_map.mp ha
            exact (N r (.tail _ (.tail _ (.tail _ (.tail _ (.tail _ hr)))))).2.1 e)
        have N₃ : News g L' h₃ ((c.x, instObj 99 c.dx) :: (c.dx, dictOf (chDict w.params B c.hd c.er c.tb c.t1 c.t2 c.t3) 3) :: (141, tabObj tps) :: []) :=
          news_after (news_sub N fun q hq => .tail _ (.tail _ (List.mem_append_left tt hq))) hst₃ fun q hq => by
            refine hcls q hq ?_ ?_ <;> (simp only [List.mem_cons, List.not_mem_nil, or_false] at hq; rcases hq with rfl | rfl | rfl)
            · exact hfx
            · exact hfd
            · exact hf141
            · simp
            · simp
            · show (tabObj tps).cls ≠ _; simp [tabObj]
        clear F N hst₃ hcls hh
        k_steps
        all_goals
          rw [beq_self_eq_true]
          exact hq _ _ tps (by rw [hg]; exact F₃.keep) (N₃.get (.tail _ (.tail _ (.head _))))
end
example {M : PySem.Model} {A : PySem.Around} {t : PySem.Sem Unit} {Q : Unit → PySem.Shared → Prop} {E : PySem.Value → PySem.Shared → Prop} {s : PySem.Shared} (h : PySem.wpAny M A t Q E s) : PySem.wpAny M A t Q E s := by first | (walk1; fail) | exact h
open PyProof.Rows.LCg PyProof.Rows.LCt



theorem kn_postR {s₁ s' : Shared} {cw : ClaimW} {cl : Str → Option Addr} {mean : ExcName → Option Value} {args : List WData} {tabs : List (Addr × Addr)} {r : Result} (hT : TabsAt tabs s₁.heap) (hr : ∀ a x, cw.raises a x = false)
    (h : GoodW cw cl mean args { s₁ with heap := ghostOf s₁.heap tabs } r s' ∧ GrownAll tabs s'.heap) : GoodWG cw cl mean args s₁ r s' := by
  obtain ⟨⟨hc, hk, hos, hg⟩, hgr⟩ := h
  have keep : ∀ b o, b ∉ tabs.map (·.2) → s₁.heap.get? b = some o → s'.heap.get? b = some o := fun b o hb e => hk b o (ghost_ne e hb)
  have grown : ∀ b o, b ∈ tabs.map (·.2) → s₁.heap.get? b = some o → isCodeTable s₁.heap b ∧ o = tabObj #[] ∧ ∃ ps, s'.heap.get? b = some (tabObj ps) := fun b o hb e => by
    obtain ⟨q, hq, rfl⟩ := List.mem_map.mp hb
    have e2 := (hT q hq).2
    rw [e] at e2
    exact ⟨((hT q hq).1.tab (hT q hq).2).isCodeTable, Option.some.inj e2, hgr.get q hq⟩
  refine ⟨?_, ⟨fun b o e => ?_, fun b o e => ?_⟩, hos, .of_eq hg⟩
  · rcases hc with ⟨v, d, as, r1, r2, r3, r4, r5⟩ | ⟨e, ob, x, _, _, _, r4, _⟩
    · refine .inl ⟨v, d, as, r1, r2, r3, r4, fun q => ⟨(r5 q).1, fun a ha => ?_⟩⟩
      cases q1 : s₁.heap.get? a with
      | none => rfl
      | some o =>
        by_cases hb : a ∈ tabs.map (·.2)
        · obtain ⟨_, _, ps, hP⟩ := grown a o hb q1
          exact absurd ha (readsW_apart hP rfl r3)
        · have e3 := (r5 q).2 a ha
          rw [show (ghostOf s₁.heap tabs).get? a = some o from ghost_ne q1 hb] at e3
          cases e3
    · rw [hr] at r4; cases r4
  · by_cases hb : b ∈ tabs.map (·.2)
    · obtain ⟨ht, rfl, ps, hP⟩ := grown b o hb e
      exact .inr (.inl ⟨ht, rfl, #[], ps, rfl, by rw [Array.empty_append]; exact hP⟩)
    · exact .inl (keep b o hb e)
  · by_cases hb : b ∈ tabs.map (·.2)
    · obtain ⟨_, _, ps, hP⟩ := grown b o hb e
      exact ⟨_, hP⟩
    · exact ⟨o, keep b o hb e⟩
theorem law_holds : PySem.Challenge.rw_og0131_01.Holds := by
  refine hd ?_
  k_fill
  intro w s₀ s₁ mg mb G Y fa o pm cd doc dV kV ho hd hcd hD hmg hg args vals as hpre hlay hrd hwl hlo
  have KX := km_in_of Y
  km_tabs Y
  have X := (Ground.X G).1
  have V := (Ground.X G).2
  refine Ground.open G ?_
  intro T B D TE TW
  try (refine guard_noD D (by decide +kernel) ?_; clear D)
  have hfa : @Eq Nat fa 168 := by
    have e := mg_of (n := Str.ofString "law") (v := .ref 168) KX (Top.g T) (by k_is)
    have e2 : some (Value.ref fa) = some (Value.ref 168) := hmg.symm.trans e
    injection e2 with e2
    injection e2
  km_lay T hmg ho hd cd
  clear hmg
  wrow_args hpre hlay hrd hwl hlo
  subst hfa
  refine wpG_mono (E := fun _ _ => False) (Q := fun v s' => GoodW _ _ _ _ { s₁ with heap := ghostOf s₁.heap [(145, 141)] } (.ok (.ret v)) s' ∧ GrownAll [(145, 141)] s'.heap) ?_ (fun v s' h => kn_postR hT9 (fun _ _ => rfl) h) (fun _ _ h => h.elim)
  rename Heap.IsList _ _ _ => hL
  rename IntsAre _ _ => hI
  rename (¬ _ < _) => hlen
  have X' := ghost_K hT9 KX (by kernel_rfl)
  have T' := ghost_top hT9 T
  have C' := (ghost_code hT9).1
  have h141 : s₁.heap.get? 141 = some (tabObj #[]) := hT8 141 (List.mem_singleton.mpr rfl)
  have hg0 : (ghostOf s₁.heap [(145, 141)]).get? 141 = none := hideAll_none _ (List.mem_singleton.mpr rfl)
  refine c_law (h₀ := ghostOf s₁.heap [(145, 141)]) X' T' (fun b o e => of_hideAll _ e) C' hg0 h141 (fun e => ?_) hL hI (by omega) (by decide) (by decide) ?_
  · obtain ⟨ol, e1, e2, _⟩ := hL
    have e' : @Eq Nat _ 141 := e
    rw [e', h141] at e1
    rw [← Option.some.inj e1] at e2
    cases e2
  · intro h' tk' ps hst hP
    refine ⟨⟨.inl ⟨_, .bool true, [], rfl, fun _ => rfl, .bool _, by wrow_post, fun _ => ⟨.nil, fun _ h => nomatch h⟩⟩, hst, rfl, hg⟩, ⟨ps, hP⟩, trivial⟩
end Mine
theorem PySem.Challenge.cw_og0131_01_holds : PySem.Challenge.rw_og0131_01.Holds :=
  Mine.law_holds
