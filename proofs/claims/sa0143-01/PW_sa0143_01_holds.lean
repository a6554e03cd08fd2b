import PyProof.Rows.All
import Wide.All
import OpenK.AllK
import Wide.FinOn
import PySem.Challenge.RW_sa0143_01
open PySem PySem.W PySem.Calls PyProof.Rows
set_option Elab.async false
set_option linter.all false
namespace Mine
-- the head lays a twin for each of its own long definitions, and the theorem behind it is quadratic in the length: where the name is taken it does without
theorem same : @PySem.Manifest.find? = @PySem.Manifest.find? := rfl
name_quick tw8075568018651887793 for PySem.Manifest.find? by Mine.same
name_quick tw7914648769195401137 for PySem.Manifest.find? by Mine.same
name_quick tw3563242193740311367 for PySem.Manifest.find? by Mine.same
name_quick tw14979626087600564940 for PySem.Manifest.find? by Mine.same
name_quick tw3803298628253846420 for PySem.Manifest.find? by Mine.same
name_quick tw15510627245697522138 for PySem.Manifest.find? by Mine.same
name_quick tw7485988203829478898 for PySem.Manifest.find? by Mine.same
name_quick tw7211724253946508535 for PySem.Manifest.find? by Mine.same
name_quick tw1602815735214968683 for PySem.Manifest.find? by Mine.same
name_quick tw17552769576498331613 for PySem.Manifest.find? by Mine.same
name_quick tw18416463498863911781 for PySem.Manifest.find? by Mine.same
name_quick tw7304268236622374541 for PySem.Manifest.find? by Mine.same
name_quick tw3988873048329089060 for PySem.Manifest.find? by Mine.same
name_quick tw2905824091091238844 for PySem.Manifest.find? by Mine.same
name_quick tw219737044198020058 for PySem.Manifest.find? by Mine.same
name_quick tw14530364306720264245 for PySem.Manifest.find? by Mine.same
name_quick tw13900631225919944168 for PySem.Manifest.find? by Mine.same
name_quick tw3972328310683599613 for PySem.Manifest.find? by Mine.same
name_quick tw18056578402003937789 for PySem.Manifest.find? by Mine.same
name_quick tw392140993173905013 for PySem.Manifest.find? by Mine.same
name_quick tw2660918139993853925 for PySem.Manifest.find? by Mine.same
name_quick tw1092655722715705105 for PySem.Manifest.find? by Mine.same
name_quick tw2670528217467546775 for PySem.Manifest.find? by Mine.same
name_quick tw17134893352704234603 for PySem.Manifest.find? by Mine.same
set_option maxRecDepth 100000 in
set_option maxHeartbeats 8000000 in
open_top hd for PySem.Challenge.rw_sa0143_01

theorem wreset_Fw : True := by
  w_top off
  exact True.intro
set_option maxRecDepth 100000

theorem wp_weaken {α : Type} {M : Model} {A A' : Around} {t : Sem α} {Q : α → Shared → Prop} {E : Value → Shared → Prop} {s : Shared}
    (h : wpAny M A' t Q E s) (h1 : A.handled = A'.handled) (h2 : A.frames = A'.frames) (h3 : A.guards = A'.guards) (h4 : A.depth ≤ A'.depth) (h5 : A.units ≤ A'.units) : wpAny M A t Q E s :=
  fun Γ p hΓ => h Γ p ⟨hΓ.1.trans h1, Nat.le_trans hΓ.2.1 h4, fun l hl => hΓ.2.2.1 l (h2.trans hl), fun g hg => hΓ.2.2.2.1 g (h3.trans hg), Nat.le_trans hΓ.2.2.2.2 h5⟩

/-- what a call leaves alone: all but its footprint -/
def Kept (h : Heap) (foot : List (Addr × Obj)) (h' : Heap) : Prop := ∀ b o, h.get? b = some o → b ∉ foot.map (·.1) → h'.get? b = some o
/-- what it made is new -/
def Fresh (h : Heap) (foot foot' : List (Addr × Obj)) : Prop := ∀ p ∈ foot', p.1 ∈ foot.map (·.1) ∨ h.get? p.1 = none

def CallOk (prog : Program) (w : World) (D U : Nat) (fn : Value) (vs : List Value) (foot : List (Addr × Obj)) (Post : Value → List (Addr × Obj) → Prop) : Prop :=
  ∀ (A : Around) (env : Env) (outer : List Env) (A₀ : Around) (base h₀ : Heap) (L : Addr) (m : Str → Option Value) (mean : ExcName → Option Value) (mg mb : Str → Option Value) (s : Shared) (Q E : Value → Shared → Prop),
    A.frames = some (env :: outer) → env.frame = some L → env.scope.kind = .function → A.handled = none → A.depth ≤ D → A.units ≤ U →
    Below A₀ base outer h₀ → Fr h₀ L s.heap m → (hd.heap_39 w.params).In h₀ → News h₀ L s.heap foot → Top hd.view_39 (looseW hd.view_39 []) mean mg mb h₀ →
    (∀ r foot' h' tk', Fr h₀ L h' m → News h₀ L h' foot' → Kept s.heap foot h' → Fresh s.heap foot foot' → Post r foot' → Q r { s with heap := h', toks := tk' }) →
    wpAny (model prog w) A (call fn vs) Q E s

/-- the end of a def's own walk -/
def Ret (g : Heap) (Post : Value → List (Addr × Obj) → Prop) (s : Shared) (v : Value) (s' : Shared) : Prop :=
  ∃ L' m' foot' h' tk', s' = { s with heap := h', toks := tk' } ∧ Fr g L' h' m' ∧ News g L' h' foot' ∧ Post v foot'

structure Give (full : List (Addr × Obj)) (P : List (Addr × Obj) → Prop) : Prop where
  out : ∃ l, P l ∧ ∀ p ∈ l, p ∈ full
theorem give_ {full : List (Addr × Obj)} {P : List (Addr × Obj) → Prop} {l : List (Addr × Obj)} (h : P l) (hs : ∀ p ∈ l, p ∈ full) : Give full P := ⟨l, h, hs⟩
theorem ret_ {g : Heap} {Post : Value → List (Addr × Obj) → Prop} {s s' : Shared} {v : Value} {L' : Addr} {m' : Str → Option Value} {full : List (Addr × Obj)} (F : Fr g L' s'.heap m') (N : News g L' s'.heap full)
    (e : s' = { s with heap := s'.heap, toks := s'.toks }) (P : Give full (Post v)) : Ret g Post s v s' := let ⟨l, h, hs⟩ := P.out; ⟨L', m', l, s'.heap, s'.toks, e, F, fun p hp => N p (hs p hp), h⟩

theorem hideAll_of_none : ∀ (l : List Addr) {h : Heap} {b : Addr}, (hideAll h l).get? b = none → b ∈ l ∨ h.get? b = none
  | l, h, b, e => by
    by_cases hb : b ∈ l
    · exact .inl hb
    · right
      cases q : h.get? b with
      | none => rfl
      | some o => rw [hideAll_get l q hb] at e; cases e

theorem code_weaken {M : Model} {A A' : Around} {c : Code} {R : Result → Shared → Prop} {s : Shared}
    (h : codeAny M A' c R s) (h1 : A.handled = A'.handled) (h2 : A.frames = A'.frames) (h3 : A.guards = A'.guards) (h4 : A.depth ≤ A'.depth) (h5 : A.units ≤ A'.units) : codeAny M A c R s :=
  fun Γ p hc hΓ => h Γ p hc ⟨hΓ.1.trans h1, Nat.le_trans hΓ.2.1 h4, fun l hl => hΓ.2.2.1 l (h2.trans hl), fun g hg => hΓ.2.2.2.1 g (h3.trans hg), Nat.le_trans hΓ.2.2.2.2 h5⟩

def CodeOk (prog : Program) (w : World) (D U : Nat) (fn : Value) (vs : List Value) (foot : List (Addr × Obj)) (Post : Value → List (Addr × Obj) → Prop) : Prop :=
  ∀ (A : Around) (env : Env) (outer : List Env) (A₀ : Around) (base h₀ : Heap) (L : Addr) (m : Str → Option Value) (mean : ExcName → Option Value) (mg mb : Str → Option Value) (s : Shared) (R : Result → Shared → Prop),
    A.frames = some (env :: outer) → env.frame = some L → env.scope.kind = .function → A.handled = none → A.depth ≤ D → A.units ≤ U →
    Below A₀ base outer h₀ → Fr h₀ L s.heap m → (hd.heap_39 w.params).In h₀ → News h₀ L s.heap foot → Top hd.view_39 (looseW hd.view_39 []) mean mg mb h₀ →
    (∀ r foot' h' tk', Fr h₀ L h' m → News h₀ L h' foot' → Kept s.heap foot h' → Fresh s.heap foot foot' → Post r foot' → R (.ok (.ret r)) { s with heap := h', toks := tk' }) →
    codeAny (model prog w) A (.call fn ⟨vs, []⟩) R s

theorem CodeOk.call {prog : Program} {w : World} {D U : Nat} {fn : Value} {vs : List Value} {foot : List (Addr × Obj)} {Post : Value → List (Addr × Obj) → Prop} (C : CodeOk prog w D U fn vs foot Post) : CallOk prog w D U fn vs foot Post := by
  intro A env outer A₀ base h₀ L m mean mg mb s Q E hA hf hke hh hd hu B F X N T k
  exact wpAny_call (C A env outer A₀ base h₀ L m mean mg mb s _ hA hf hke hh hd hu B F X N T k)

theorem codeOk_def {prog : Program} {w : World} {D U : Nat} {f : Addr} {vs : List Value} {foot : List (Addr × Obj)} {Post : Value → List (Addr × Obj) → Prop}
    {name qual : Str} {params : Arguments} {body : List Stmt} {scope : Scope} {dV kV doc pm cdv ct oc : Value} {an od : Option Addr} {osl : Array (Option Value)} {binds : List (Str × Value)}
    (ho : (hd.heap_39 w.params).lookup f = some ⟨oc, od, .func (fnOf name qual params body scope dV kV doc pm an cdv ct), osl⟩) (hcd : codeIn (hd.heap_39 w.params) cdv qual = true)
    (hD : D < recursionLimit)
    (hbind : ∀ s, BindsTo s (fnOf name qual params body scope dV kV doc pm an cdv ct) ⟨vs, []⟩ binds) (hloc : ∀ y ∈ binds, scope.names.lookup y.1 = some .local)
    (h : ∀ (gd : Option (List Code)) (outer : List Env) (A₀ : Around) (base g : Heap) (L' : Addr) (mean : ExcName → Option Value) (mg mb : Str → Option Value) (s : Shared),
      Below A₀ base outer g → Fr g L' s.heap (fun y => binds.reverse.lookup y) → (hd.heap_39 w.params).In g → News g L' s.heap foot → Top hd.view_39 (looseW hd.view_39 []) mean mg mb g →
      wpAny (model prog w) (Around.deeper { handled := none, depth := D, frames := some outer, guards := gd, units := U } (envOf qual scope L' f cdv)) (execs body (envOf qual scope L' f cdv))
        (fun fl s' => Ret g Post s (match fl with | .ret v => v | _ => .none) s') (fun _ _ => False) s)
    (hco : scope.isCoroutine = false := by rfl) (hgen : scope.isGenerator = false := by rfl) (hk : scope.kind = .function := by rfl)
    (hcell : ∀ x ∈ scope.names, x.2 ≠ .cell := by decide) : CodeOk prog w D U (.ref f) vs foot Post := by
  intro A env outer A₀ base h₀ L m mean mg mb s R hA hf hke hh hd hu B F X N T k
  obtain ⟨FG, BG, st, _⟩ := groundX (R := fun _ _ => True) B F N hA hf hke
  refine code_weaken (A' := { handled := none, depth := D, frames := some (env :: outer), guards := A.guards, units := U }) ?_ hh hA rfl hd hu
  refine codeAny_call_def (fd := fnOf name qual params body scope dV kV doc pm an cdv ct) (body := body) (binds := binds) hD ((X.keeps F.keep) _ _ ho) rfl (T.nolimit.keeps F.keep) (codeRec_of (X.keeps F.keep) hcd) rfl (hbind s) hcell hloc (fun h₁ hns hk₁ => ?_) hco hgen hk
  have BG' : Below { A with frames := some (env :: outer) } base (env :: outer) (hideAll s.heap (foot.map (·.1))) := ⟨rfl, BG.stays, BG.frames⟩
  refine wpAny_mono (h A.guards (env :: outer) _ _ (hideAll s.heap (foot.map (·.1))) s.heap.objs.size mean mg mb ⟨h₁, s.gens, s.drawn, s.toks + binds.length, s.os⟩ BG' ⟨hns, fun b o e => hk₁ b o (of_hideAll _ e), Nat.le_of_eq (hideAll_size _ _)⟩
    (X.keeps st) (fun p hp => ⟨hk₁ _ _ (N p hp).1, Nat.ne_of_lt (Heap.lt_size (N p hp).1), hideAll_none _ (List.mem_map_of_mem hp)⟩) (T.keeps st)) (fun fl s' hl => ?_) fun _ _ y => y.elim
  obtain ⟨L', m', foot', h', tk', rfl, F', N', P⟩ := hl
  have nL : L ∉ foot.map (·.1) := fun q => by
    obtain ⟨p, hp, e⟩ := List.mem_map.mp q
    exact (N p hp).2.1 e
  obtain ⟨oL, es, ep, hL, hLd, hLk, hLf⟩ := F.ns
  have hLg := hideAll_get (foot.map (·.1)) hL nL
  refine k _ foot' h' tk' ⟨⟨oL, es, ep, F'.keep L oL hLg, hLd, hLk, hLf⟩, fun b o e => F'.keep b o (st b o e), F.above⟩ (fun p hp => ⟨(N' p hp).1, fun q => ?_, ?_⟩)
    (fun b o e nb => F'.keep b o (hideAll_get _ e nb)) (fun p hp => hideAll_of_none _ (N' p hp).2.2) P
  · have := (N' p hp).2.2; rw [q, hLg] at this; cases this
  · cases q : h₀.get? p.1 with
    | none => rfl
    | some o => have := (N' p hp).2.2; rw [st _ _ q] at this; cases this

theorem callOk_def {prog : Program} {w : World} {D U : Nat} {f : Addr} {vs : List Value} {foot : List (Addr × Obj)} {Post : Value → List (Addr × Obj) → Prop}
    {name qual : Str} {params : Arguments} {body : List Stmt} {scope : Scope} {dV kV doc pm cdv ct oc : Value} {an od : Option Addr} {osl : Array (Option Value)} {binds : List (Str × Value)}
    (ho : (hd.heap_39 w.params).lookup f = some ⟨oc, od, .func (fnOf name qual params body scope dV kV doc pm an cdv ct), osl⟩) (hcd : codeIn (hd.heap_39 w.params) cdv qual = true)
    (hD : D < recursionLimit)
    (hbind : ∀ s, BindsTo s (fnOf name qual params body scope dV kV doc pm an cdv ct) ⟨vs, []⟩ binds) (hloc : ∀ y ∈ binds, scope.names.lookup y.1 = some .local)
    (h : ∀ (gd : Option (List Code)) (outer : List Env) (A₀ : Around) (base g : Heap) (L' : Addr) (mean : ExcName → Option Value) (mg mb : Str → Option Value) (s : Shared),
      Below A₀ base outer g → Fr g L' s.heap (fun y => binds.reverse.lookup y) → (hd.heap_39 w.params).In g → News g L' s.heap foot → Top hd.view_39 (looseW hd.view_39 []) mean mg mb g →
      wpAny (model prog w) (Around.deeper { handled := none, depth := D, frames := some outer, guards := gd, units := U } (envOf qual scope L' f cdv)) (execs body (envOf qual scope L' f cdv))
        (fun fl s' => Ret g Post s (match fl with | .ret v => v | _ => .none) s') (fun _ _ => False) s)
    (hco : scope.isCoroutine = false := by rfl) (hgen : scope.isGenerator = false := by rfl) (hk : scope.kind = .function := by rfl)
    (hcell : ∀ x ∈ scope.names, x.2 ≠ .cell := by decide) : CallOk prog w D U (.ref f) vs foot Post :=
  (codeOk_def ho hcd hD hbind hloc h hco hgen hk hcell).call

-- the same, with what is only read
def CallOkR (prog : Program) (w : World) (D U : Nat) (fn : Value) (vs : List Value) (ro foot : List (Addr × Obj)) (Post : Value → List (Addr × Obj) → Prop) : Prop :=
  ∀ (A : Around) (env : Env) (outer : List Env) (A₀ : Around) (base h₀ : Heap) (L : Addr) (m : Str → Option Value) (mean : ExcName → Option Value) (mg mb : Str → Option Value) (s : Shared) (Q E : Value → Shared → Prop),
    A.frames = some (env :: outer) → env.frame = some L → env.scope.kind = .function → A.handled = none → A.depth ≤ D → A.units ≤ U →
    Below A₀ base outer h₀ → Fr h₀ L s.heap m → (hd.heap_39 w.params).In h₀ → News h₀ L s.heap foot → Top hd.view_39 (looseW hd.view_39 []) mean mg mb h₀ → (∀ p ∈ ro, s.heap.get? p.1 = some p.2 ∧ p.1 ∉ foot.map (·.1)) →
    (∀ r foot' h' tk', Fr h₀ L h' m → News h₀ L h' foot' → Kept s.heap foot h' → Fresh s.heap foot foot' → Post r foot' → Q r { s with heap := h', toks := tk' }) →
    wpAny (model prog w) A (call fn vs) Q E s

def CodeOkR (prog : Program) (w : World) (D U : Nat) (fn : Value) (vs : List Value) (ro foot : List (Addr × Obj)) (Post : Value → List (Addr × Obj) → Prop) : Prop :=
  ∀ (A : Around) (env : Env) (outer : List Env) (A₀ : Around) (base h₀ : Heap) (L : Addr) (m : Str → Option Value) (mean : ExcName → Option Value) (mg mb : Str → Option Value) (s : Shared) (R : Result → Shared → Prop),
    A.frames = some (env :: outer) → env.frame = some L → env.scope.kind = .function → A.handled = none → A.depth ≤ D → A.units ≤ U →
    Below A₀ base outer h₀ → Fr h₀ L s.heap m → (hd.heap_39 w.params).In h₀ → News h₀ L s.heap foot → Top hd.view_39 (looseW hd.view_39 []) mean mg mb h₀ → (∀ p ∈ ro, s.heap.get? p.1 = some p.2 ∧ p.1 ∉ foot.map (·.1)) →
    (∀ r foot' h' tk', Fr h₀ L h' m → News h₀ L h' foot' → Kept s.heap foot h' → Fresh s.heap foot foot' → Post r foot' → R (.ok (.ret r)) { s with heap := h', toks := tk' }) →
    codeAny (model prog w) A (.call fn ⟨vs, []⟩) R s

theorem CodeOkR.call {prog : Program} {w : World} {D U : Nat} {fn : Value} {vs : List Value} {ro foot : List (Addr × Obj)} {Post : Value → List (Addr × Obj) → Prop} (C : CodeOkR prog w D U fn vs ro foot Post) : CallOkR prog w D U fn vs ro foot Post := by
  intro A env outer A₀ base h₀ L m mean mg mb s Q E hA hf hke hh hd hu B F X N T hr k
  exact wpAny_call (C A env outer A₀ base h₀ L m mean mg mb s _ hA hf hke hh hd hu B F X N T hr k)

theorem codeOkR_def {prog : Program} {w : World} {D U : Nat} {f : Addr} {vs : List Value} {ro foot : List (Addr × Obj)} {Post : Value → List (Addr × Obj) → Prop}
    {name qual : Str} {params : Arguments} {body : List Stmt} {scope : Scope} {dV kV doc pm cdv ct oc : Value} {an od : Option Addr} {osl : Array (Option Value)} {binds : List (Str × Value)}
    (ho : (hd.heap_39 w.params).lookup f = some ⟨oc, od, .func (fnOf name qual params body scope dV kV doc pm an cdv ct), osl⟩) (hcd : codeIn (hd.heap_39 w.params) cdv qual = true)
    (hD : D < recursionLimit)
    (hbind : ∀ s, BindsTo s (fnOf name qual params body scope dV kV doc pm an cdv ct) ⟨vs, []⟩ binds) (hloc : ∀ y ∈ binds, scope.names.lookup y.1 = some .local)
    (h : ∀ (gd : Option (List Code)) (outer : List Env) (A₀ : Around) (base g : Heap) (L' : Addr) (mean : ExcName → Option Value) (mg mb : Str → Option Value) (s : Shared),
      Below A₀ base outer g → Fr g L' s.heap (fun y => binds.reverse.lookup y) → (hd.heap_39 w.params).In g → News g L' s.heap foot → Top hd.view_39 (looseW hd.view_39 []) mean mg mb g → (∀ p ∈ ro, g.get? p.1 = some p.2) →
      wpAny (model prog w) (Around.deeper { handled := none, depth := D, frames := some outer, guards := gd, units := U } (envOf qual scope L' f cdv)) (execs body (envOf qual scope L' f cdv))
        (fun fl s' => Ret g Post s (match fl with | .ret v => v | _ => .none) s') (fun _ _ => False) s)
    (hco : scope.isCoroutine = false := by rfl) (hgen : scope.isGenerator = false := by rfl) (hk : scope.kind = .function := by rfl)
    (hcell : ∀ x ∈ scope.names, x.2 ≠ .cell := by decide) : CodeOkR prog w D U (.ref f) vs ro foot Post := by
  intro A env outer A₀ base h₀ L m mean mg mb s R hA hf hke hh hd hu B F X N T hr k
  obtain ⟨FG, BG, st, _⟩ := groundX (R := fun _ _ => True) B F N hA hf hke
  refine code_weaken (A' := { handled := none, depth := D, frames := some (env :: outer), guards := A.guards, units := U }) ?_ hh hA rfl hd hu
  refine codeAny_call_def (fd := fnOf name qual params body scope dV kV doc pm an cdv ct) (body := body) (binds := binds) hD ((X.keeps F.keep) _ _ ho) rfl (T.nolimit.keeps F.keep) (codeRec_of (X.keeps F.keep) hcd) rfl (hbind s) hcell hloc (fun h₁ hns hk₁ => ?_) hco hgen hk
  have BG' : Below { A with frames := some (env :: outer) } base (env :: outer) (hideAll s.heap (foot.map (·.1))) := ⟨rfl, BG.stays, BG.frames⟩
  refine wpAny_mono (h A.guards (env :: outer) _ _ (hideAll s.heap (foot.map (·.1))) s.heap.objs.size mean mg mb ⟨h₁, s.gens, s.drawn, s.toks + binds.length, s.os⟩ BG' ⟨hns, fun b o e => hk₁ b o (of_hideAll _ e), Nat.le_of_eq (hideAll_size _ _)⟩
    (X.keeps st) (fun p hp => ⟨hk₁ _ _ (N p hp).1, Nat.ne_of_lt (Heap.lt_size (N p hp).1), hideAll_none _ (List.mem_map_of_mem hp)⟩) (T.keeps st) (fun p hp => hideAll_get _ (hr p hp).1 (hr p hp).2)) (fun fl s' hl => ?_) fun _ _ y => y.elim
  obtain ⟨L', m', foot', h', tk', rfl, F', N', P⟩ := hl
  have nL : L ∉ foot.map (·.1) := fun q => by
    obtain ⟨p, hp, e⟩ := List.mem_map.mp q
    exact (N p hp).2.1 e
  obtain ⟨oL, es, ep, hL, hLd, hLk, hLf⟩ := F.ns
  have hLg := hideAll_get (foot.map (·.1)) hL nL
  refine k _ foot' h' tk' ⟨⟨oL, es, ep, F'.keep L oL hLg, hLd, hLk, hLf⟩, fun b o e => F'.keep b o (st b o e), F.above⟩ (fun p hp => ⟨(N' p hp).1, fun q => ?_, ?_⟩)
    (fun b o e nb => F'.keep b o (hideAll_get _ e nb)) (fun p hp => hideAll_of_none _ (N' p hp).2.2) P
  · have := (N' p hp).2.2; rw [q, hLg] at this; cases this
  · cases q : h₀.get? p.1 with
    | none => rfl
    | some o => have := (N' p hp).2.2; rw [st _ _ q] at this; cases this

structure Halt (p : Prop) : Prop where
  out : p
structure Held (p : Prop) : Prop where
  out : p

theorem newsKept {h₀ h h' : Heap} {L : Addr} {l foot : List (Addr × Obj)} (N : News h₀ L h l) (k : Kept h foot h') (d : ∀ p ∈ l, p.1 ∉ foot.map (·.1)) : News h₀ L h' l :=
  fun p hp => ⟨k _ _ (N p hp).1 (d p hp), (N p hp).2⟩
theorem newsJoin {h₀ h : Heap} {L : Addr} {l l' : List (Addr × Obj)} (N : News h₀ L h l) (N' : News h₀ L h l') : News h₀ L h (l ++ l') :=
  fun p hp => (List.mem_append.mp hp).elim (N p) (N' p)
theorem newsPart {h₀ h : Heap} {L : Addr} {l l' : List (Addr × Obj)} (N : News h₀ L h l) (d : ∀ p ∈ l', p ∈ l) : News h₀ L h l' := fun p hp => N p (d p hp)

section
variable {prog : Program} {w : World} {D U : Nat} {fn : Value} {vs : List Value} {foot full : List (Addr × Obj)} {Post : Value → List (Addr × Obj) → Prop} {A A₀ : Around} {env : Env} {outer : List Env} {base h₀ : Heap} {L : Addr} {m : Str → Option Value}
  {mean : ExcName → Option Value} {mg mb : Str → Option Value} {s : Shared} {Q E : Value → Shared → Prop}
theorem callOk_use (C : CallOk prog w D U fn vs foot Post) (B : Below A₀ base outer h₀) (F : Fr h₀ L s.heap m) (X : (hd.heap_39 w.params).In h₀) (N : News h₀ L s.heap full) (T : Top hd.view_39 (looseW hd.view_39 []) mean mg mb h₀)
    (hsub : ∀ p ∈ foot, p ∈ full) (hA : A.frames = some (env :: outer)) (hf : env.frame = some L) (hke : env.scope.kind = .function) (hh : A.handled = none) (hd : A.depth ≤ D) (hu : A.units ≤ U)
    (k : ∀ r foot' h' tk', Fr h₀ L h' m → News h₀ L h' foot' → Kept s.heap foot h' → Fresh s.heap foot foot' → Post r foot' → Q r { s with heap := h', toks := tk' }) : wpAny (model prog w) A (call fn vs) Q E s :=
  C A env outer A₀ base h₀ L m mean mg mb s Q E hA hf hke hh hd hu B F X (newsPart N hsub) T k

/-- the footprint is the ledger's tail; ahead of it stands what the call leaves alone -/
theorem callOk_tail {pre : List (Addr × Obj)} (C : CallOk prog w D U fn vs foot Post) (B : Below A₀ base outer h₀) (F : Fr h₀ L s.heap m) (X : (hd.heap_39 w.params).In h₀) (N : News h₀ L s.heap full) (T : Top hd.view_39 (looseW hd.view_39 []) mean mg mb h₀)
    (e : full = pre ++ foot) (hn : ∀ p ∈ pre, p.1 ∉ foot.map (·.1)) (hA : A.frames = some (env :: outer)) (hf : env.frame = some L) (hke : env.scope.kind = .function) (hh : A.handled = none) (hd : A.depth ≤ D) (hu : A.units ≤ U)
    (k : ∀ r foot' h' tk', Fr h₀ L h' m → News h₀ L h' (pre ++ foot') → (∀ p ∈ pre, p.1 ∉ foot'.map (·.1)) → Post r foot' → Q r { s with heap := h', toks := tk' }) : wpAny (model prog w) A (call fn vs) Q E s := by
  subst e
  refine callOk_use C B F X N T (fun p hp => List.mem_append_right _ hp) hA hf hke hh hd hu fun r foot' h' tk' F' N' K' R' P => ?_
  have N0 : News h₀ L s.heap pre := newsPart N fun p hp => List.mem_append_left _ hp
  refine k r foot' h' tk' F' (newsJoin (newsKept N0 K' hn) N') (fun p hp hq => ?_) P
  obtain ⟨q, hq, e⟩ := List.mem_map.mp hq
  rcases R' q hq with h1 | h1
  · exact hn p hp (e ▸ h1)
  · have h2 := (N0 p hp).1
    rw [e] at h1; rw [h1] at h2; cases h2
end
section
variable {prog : Program} {w : World} {D U : Nat} {fn : Value} {vs : List Value} {ro foot full : List (Addr × Obj)} {Post : Value → List (Addr × Obj) → Prop} {A A₀ : Around} {env : Env} {outer : List Env} {base h₀ : Heap} {L : Addr} {m : Str → Option Value}
  {mean : ExcName → Option Value} {mg mb : Str → Option Value} {s : Shared} {Q E : Value → Shared → Prop}
theorem callOkR_use (C : CallOkR prog w D U fn vs ro foot Post) (B : Below A₀ base outer h₀) (F : Fr h₀ L s.heap m) (X : (hd.heap_39 w.params).In h₀) (N : News h₀ L s.heap full) (T : Top hd.view_39 (looseW hd.view_39 []) mean mg mb h₀)
    (hsub : ∀ p ∈ foot, p ∈ full) (hA : A.frames = some (env :: outer)) (hf : env.frame = some L) (hke : env.scope.kind = .function) (hh : A.handled = none) (hd : A.depth ≤ D) (hu : A.units ≤ U) (hr : ∀ p ∈ ro, s.heap.get? p.1 = some p.2 ∧ p.1 ∉ foot.map (·.1))
    (k : ∀ r foot' h' tk', Fr h₀ L h' m → News h₀ L h' foot' → Kept s.heap foot h' → Fresh s.heap foot foot' → Post r foot' → Q r { s with heap := h', toks := tk' }) : wpAny (model prog w) A (call fn vs) Q E s :=
  C A env outer A₀ base h₀ L m mean mg mb s Q E hA hf hke hh hd hu B F X (newsPart N hsub) T hr k

/-- the footprint is the ledger's tail; ahead of it stands what the call leaves alone -/
theorem callOkR_tail {pre : List (Addr × Obj)} (C : CallOkR prog w D U fn vs ro foot Post) (B : Below A₀ base outer h₀) (F : Fr h₀ L s.heap m) (X : (hd.heap_39 w.params).In h₀) (N : News h₀ L s.heap full) (T : Top hd.view_39 (looseW hd.view_39 []) mean mg mb h₀)
    (e : full = pre ++ foot) (hn : ∀ p ∈ pre, p.1 ∉ foot.map (·.1)) (hA : A.frames = some (env :: outer)) (hf : env.frame = some L) (hke : env.scope.kind = .function) (hh : A.handled = none) (hd : A.depth ≤ D) (hu : A.units ≤ U) (hr : ∀ p ∈ ro, s.heap.get? p.1 = some p.2 ∧ p.1 ∉ foot.map (·.1))
    (k : ∀ r foot' h' tk', Fr h₀ L h' m → News h₀ L h' (pre ++ foot') → (∀ p ∈ pre, p.1 ∉ foot'.map (·.1)) → Post r foot' → Q r { s with heap := h', toks := tk' }) : wpAny (model prog w) A (call fn vs) Q E s := by
  subst e
  refine callOkR_use C B F X N T (fun p hp => List.mem_append_right _ hp) hA hf hke hh hd hu hr fun r foot' h' tk' F' N' K' R' P => ?_
  have N0 : News h₀ L s.heap pre := newsPart N fun p hp => List.mem_append_left _ hp
  refine k r foot' h' tk' F' (newsJoin (newsKept N0 K' hn) N') (fun p hp hq => ?_) P
  obtain ⟨q, hq, e⟩ := List.mem_map.mp hq
  rcases R' q hq with h1 | h1
  · exact hn p hp (e ▸ h1)
  · have h2 := (N0 p hp).1
    rw [e] at h1; rw [h1] at h2; cases h2
end
theorem set_at {prog : Program} {w : World} {A : Around} {E : Value → Shared → Prop} {s : Shared} {h₀ : Heap} {L D : Addr} {m : Str → Option Value} {news news' : List (Addr × Obj)} {its its' : List Value} {n : Nat} {k : Int} {t : Tok} {v : Value}
    {Q : Unit → Shared → Prop} (F : Fr h₀ L s.heap m) (N : News h₀ L s.heap news) (U : Upd D (listOf its.toArray n) (listOf its'.toArray n) news news') (e : its.set k.toNat v = its') (h0 : 0 ≤ k) (h1 : k < its.length) (hfit : k < 2 ^ 63)
    (h : ∀ h', Fr h₀ L h' m → News h₀ L h' news' → Q () { s with heap := h' }) : wpAny (model prog w) A (setItem (.ref D) (.int k t) v) Q E s := by
  subst e
  obtain ⟨pre, post, rfl, rfl, a, b⟩ := U.split
  have z := N (D, listOf its.toArray n) (List.mem_append.mpr (.inr (.head _)))
  refine ki_setAt z.1 h0 hfit (by rw [List.size_toArray]; exact h1) (h _ (F.change (Heap.SameBut.update ..) z.2.1 z.2.2) (ki_turn _ N a b ?_ ?_))
  · apply Array.toList_inj.mp
    simp
  · simp

local macro_rules | `(tactic| walk_at "setItem ref int") => `(tactic| (k_here; k_dflt (refine' set_at ?k1 ?k2 ?k3 ?k4 ?k5 ?k6 ?k7 ?_; (case k1 => k_asm); (case k2 => k_asm); (case k3 => k_upd); (case k4 => exact rfl); (case k5 => decide); (case k6 => decide); (case k7 => decide); k_whole); intro h' F' N'; (try k_sweep)))

local macro_rules | `(tactic| walk_at "binaryOp FloorDiv int int") => `(tactic| ((with_reducible refine floordiv_int ?a ?_ (Or.inl ?b)); (case a => omega); (case b => ((rename (∀ x : Int, Builtin.divisionGoesByPylong x _ = false) => hpy'); exact hpy' _))))

local macro_rules | `(tactic| walk_at "CallOk") => `(tactic| (refine' callOk_def ?k6 ?k7 ?k8 ?k9 ?kB ?_ ?c2 ?c3 ?c4 ?c5; (case k6 => k_is); (case k7 => k_is); (case k8 => decide); (case k9 => intro s; exact BindsTo.of_eq rfl); (case c5 => decide); (case kB => exact locs rfl); (case c2 => exact rfl); (case c3 => exact rfl); (case c4 => exact rfl); intro gd outer A₀ base g L' mean mg mb s B F X N T; (try k_fold)))
local macro_rules | `(tactic| walk_at "CodeOk") => `(tactic| (refine' codeOk_def ?k6 ?k7 ?k8 ?k9 ?kB ?_ ?c2 ?c3 ?c4 ?c5; (case k6 => k_is); (case k7 => k_is); (case k8 => decide); (case k9 => intro s; exact BindsTo.of_eq rfl); (case c5 => decide); (case kB => exact locs rfl); (case c2 => exact rfl); (case c3 => exact rfl); (case c4 => exact rfl); intro gd outer A₀ base g L' mean mg mb s B F X N T; (try k_fold)))
local macro_rules | `(tactic| walk_at "CodeOkR") => `(tactic| (refine' codeOkR_def ?k6 ?k7 ?k8 ?k9 ?kB ?_ ?c2 ?c3 ?c4 ?c5; (case k6 => k_is); (case k7 => k_is); (case k8 => decide); (case k9 => intro s; exact BindsTo.of_eq rfl); (case c5 => decide); (case kB => exact locs rfl); (case c2 => exact rfl); (case c3 => exact rfl); (case c4 => exact rfl); intro gd outer A₀ base g L' mean mg mb s B F X N T hro; (try k_fold)))
local macro_rules | `(tactic| walk_at "call ref") => `(tactic| (k_here; refine Halt.out ?_))
theorem sub_list {prog : Program} {w : World} {A : Around} {E : Value → Shared → Prop} {s : Shared} {h₀ : Heap} {L D : Addr} {news : List (Addr × Obj)} {its : List Value} {n : Nat} {k : Int} {u : Tok} {value slice : PySem.Expr} {Q : Value → Shared → Prop} (P : Value → Prop)
    (N : News h₀ L s.heap news) (hm : (D, listOf its.toArray n) ∈ news) (h0 : 0 ≤ k) (h1 : k < its.length) (hfit : k < 2 ^ 63) (hall : ∀ x ∈ its, P x) (h : ∀ x, P x → Q x s)
    (hs : subscripted slice false (.ref D) (.int k u) = operate [.ref D, .int k u] (getItem (.ref D) (.int k u)) := by with_unfolding_all rfl) (hg : ∀ r, letTemporaryGo value (.ref D) r = pure () := by intro _; with_unfolding_all rfl) :
    wpAny (model prog w) A (subscriptTail value slice (.ref D) (.int k u)) Q E s := by
  have hk : k.toNat < its.length := by omega
  exact kim_list N hm rfl rfl h0 hfit (List.getElem?_eq_getElem hk) (h _ (hall _ (List.getElem_mem hk))) hs hg

theorem len_led {prog : Program} {w : World} {A : Around} {E : Value → Shared → Prop} {s : Shared} {h₀ : Heap} {L D : Addr} {news : List (Addr × Obj)} {its : List Value} {n : Nat} {Q : Value → Shared → Prop}
    (N : News h₀ L s.heap news) (hm : (D, listOf its.toArray n) ∈ news) (hz : its.length ≤ 100000) (h : Q (.int (its.length : Nat) (s.toks + 1)) { s with toks := s.toks + 1 + 1 }) : wpAny (model prog w) A (call (.builtin "len") [.ref D]) Q E s :=
  call_len_list (PySem.IsL.isList (n := n) (N _ hm).1) (by rw [List.size_toArray]; omega) (by rw [List.size_toArray]; exact h)
theorem append_led {prog : Program} {w : World} {A : Around} {E : Value → Shared → Prop} {s : Shared} {h₀ : Heap} {L D : Addr} {m : Str → Option Value} {news news' : List (Addr × Obj)} {its : List Value} {n : Nat} {x : Value} {Q : Value → Shared → Prop}
    (F : Fr h₀ L s.heap m) (N : News h₀ L s.heap news) (U : Upd D (listOf its.toArray n) (listOf (its ++ [x]).toArray (n + 1)) news news')
    (h : ∀ h', Fr h₀ L h' m → News h₀ L h' news' → Q .none { s with heap := h' }) (hz : its.length ≤ 100000) : wpAny (model prog w) A (call (.builtin "list.append") [.ref D, x]) Q E s :=
  append_K (its := its.toArray) (n := n) F N (by rw [List.push_toArray]; exact U) h (by rw [List.size_toArray, sizeLine_eq]; omega)

theorem off_of_lt {d : Addr} : ∀ {l : List (Addr × Obj)}, AllLt d l → d ∉ l.map (·.1)
  | [], _ => by simp
  | p :: r, h => by
    have h1 : @LT.lt Nat _ p.1 d := h.1
    rw [List.map_cons, List.mem_cons, not_or]
    exact ⟨fun e => Nat.lt_irrefl _ (e ▸ h1), off_of_lt h.2⟩
theorem off_of_all {d : Addr} {l : List (Addr × Obj)} (h : ∀ p ∈ l, p.1 < d) : d ∉ l.map (·.1) := off_of_lt (allLt_of h)
theorem off_at {pre foot : List (Addr × Obj)} {a : Addr} {o : Obj} (D : ∀ p ∈ pre, p.1 ∉ foot.map (·.1)) (m : (a, o) ∈ pre) : a ∉ foot.map (·.1) := D _ m
theorem split0 {l : List (Addr × Obj)} : l = [] ++ l := rfl
theorem split1 {a : Addr × Obj} {l : List (Addr × Obj)} : a :: l = [a] ++ l := rfl
theorem split2 {a b : Addr × Obj} {l : List (Addr × Obj)} : a :: b :: l = [a, b] ++ l := rfl
theorem split3 {a b c : Addr × Obj} {l : List (Addr × Obj)} : a :: b :: c :: l = [a, b, c] ++ l := rfl
theorem split4 {a b c d : Addr × Obj} {l : List (Addr × Obj)} : a :: b :: c :: d :: l = [a, b, c, d] ++ l := rfl
local macro_rules | `(tactic| walk_at "m_and") => `(tactic| first | assumption | (refine' And.right ?h; assumption) | (refine' And.right (And.right ?h); assumption) | (refine' And.right (And.right (And.right ?h)); assumption) | (refine' And.right (And.right (And.right (And.right ?h))); assumption) | (refine' And.right (And.right (And.right (And.right (And.right ?h)))); assumption))
local macro_rules | `(tactic| walk_at "m_off1") => `(tactic| first | assumption | (refine' off_of_all ?h; assumption) | (refine' off_of_lt ?h; (case h => walk_at "m_and")) | (refine' off_at ?D ?m; (case D => assumption); (case m => k_mem)))
local macro_rules | `(tactic| walk_at "m_off") => `(tactic| first | assumption | exact List.forall_mem_nil _ | (refine' List.forall_mem_cons.mpr ⟨?a, ?b⟩; (case a => walk_at "m_off1"); (case b => walk_at "m_off")))
local macro_rules | `(tactic| walk_at "m_sub") => `(tactic| first | exact fun _ h => h | exact fun _ h => List.mem_cons_of_mem _ h | exact fun _ h => List.mem_cons_of_mem _ (List.mem_cons_of_mem _ h) | exact fun _ h => List.mem_cons_of_mem _ (List.mem_cons_of_mem _ (List.mem_cons_of_mem _ h)) | exact fun _ h => List.mem_cons_of_mem _ (List.mem_cons_of_mem _ (List.mem_cons_of_mem _ (List.mem_cons_of_mem _ h))))
local macro_rules | `(tactic| walk_at "m_split") => `(tactic| first | with_reducible exact split0 | with_reducible exact split1 | with_reducible exact split2 | with_reducible exact split3 | with_reducible exact split4)
local macro_rules | `(tactic| k_all) => `(tactic| assumption)
local macro_rules | `(tactic| walk_at "m_size") => `(tactic| ((try simp only [List.length_append, List.length_cons, List.length_nil, List.length_map]); omega))
local macro_rules | `(tactic| walk_at "call builtin:len") => `(tactic| (k_here; (with_reducible show wpAny _ _ (call (Value.builtin "len") [Value.ref _]) _ _ _); k_dflt (refine' len_led ?N ?m ?z ?_; (case N => k_asm); (case m => k_mem); (case z => walk_at "m_size"))))
local macro_rules | `(tactic| walk_at "call builtin:list.append") => `(tactic| (k_here; (with_reducible show wpAny _ _ (call (Value.builtin _) [Value.ref _, _]) _ _ _); k_dflt (refine' append_led ?k1 ?k2 ?k3 ?_ ?z; (case k1 => k_asm); (case k2 => k_asm); (case k3 => k_upd); (case z => walk_at "m_size"); k_whole); intro h' F' N'; (try k_sweep)))
local macro_rules | `(tactic| walk_at "setItem ref str") => `(tactic| (k_here; k_dflt (refine' kda_set (knd := PySem.strKind _ _) ?F ?N ?U ?d (strKind_is _ _ _ _) ?z ?_; (case F => k_asm); (case N => k_asm); (case U => k_updF); (case d => k_asm); (case z => ((rw [sizeLine_eq]); walk_at "m_size"))); intro h' o' F' N' hd'; (try dsimp only at N'); (try k_sweep)))
local macro_rules | `(tactic| walk_at "Ret") => `(tactic| ((refine' ret_ ?kf ?kn ?ke ?_); (case kf => k_asm); (case kn => k_asm); (case ke => exact rfl)))

theorem wreset_D1 : True := by
  w_top off
  exact True.intro
theorem fillK_D1 : PySem.Challenge.rw_sa0143_01 = PySem.Challenge.rw_sa0143_01 ∧ hd.heap_39 = hd.heap_39 := by
  k_fill
  exact ⟨rfl, rfl⟩
def PotL (p nl : Addr) (l : List (Addr × Obj)) : Prop :=
  ∃ (k : Int) (tk : Tok) (n1 n2 : Nat) (vs : List Value) (ns : List Int), 0 ≤ k ∧ IntsAre vs ns ∧ 0 < ns.length ∧ ns.length ≤ 20 ∧
    l = [(p, listOf [.int k tk, .ref nl].toArray n1), (nl, listOf vs.toArray n2)]

theorem potL_mk {p nl : Addr} {k : Int} {tk : Tok} {n1 n2 : Nat} {vs : List Value} {ns : List Int} (hk : 0 ≤ k) (hi : IntsAre vs ns) (h1 : 0 < ns.length) (h2 : ns.length ≤ 20) :
    PotL p nl [(p, listOf [.int k tk, .ref nl].toArray n1), (nl, listOf vs.toArray n2)] := ⟨k, tk, n1, n2, vs, ns, hk, hi, h1, h2, rfl⟩

set_option maxHeartbeats 4000000 in
theorem digit_ok {prog : Program} {w : World} {p nl : Addr} {lim : Int} {tl : Tok} {foot : List (Addr × Obj)} (hne : @Ne Nat p nl) (h0 : 0 < lim) (hpy : ∀ x : Int, Builtin.divisionGoesByPylong x lim = false) (hP : PotL p nl foot) :
    CallOk prog w 400 1000 (.ref 235) [.ref p, .int lim tl] foot (fun r foot' => (∃ x t, r = .int x t ∧ 0 ≤ x ∧ x < lim) ∧ PotL p nl foot') := by
  obtain ⟨k, tk, n1, n2, vs, ns, hk, hi, hl, hl2, rfl⟩ := hP
  walk_at "CallOk"
  k_steps
  refine give_ ⟨⟨_, _, rfl, ?_, ?_⟩, ?_⟩ (by walk_at "m_sub")
  · exact Int.fmod_nonneg_of_pos _ h0
  · exact Int.fmod_lt_of_pos _ h0
  · exact potL_mk (by omega) (by assumption) (by simpa using hl) (by simpa using hl2)
theorem noPy_small {lim : Int} (h : lim.natAbs.log2 < 9000) : ∀ x : Int, Builtin.divisionGoesByPylong x lim = false := fun _ => PyProof.noPylong_of_log2 h
theorem offPot {p nl : Addr} {l : List (Addr × Obj)} (h : PotL p nl l) {a : Addr} (h1 : a ≠ p) (h2 : a ≠ nl) : a ∉ l.map (·.1) := by
  obtain ⟨_, _, _, _, _, _, _, _, _, _, rfl⟩ := h
  simp [h1, h2]
local macro_rules | `(tactic| walk_at "Halt") => `(tactic| ((with_reducible show Halt (wpAny _ _ (call (Value.ref 235) _) _ _ _)); refine' Halt.mk (callOk_tail (digit_ok ?hne ?h0 ?hpy ?hP) ?B ?F ?X ?N ?T ?e ?hn rfl rfl rfl rfl ?hd ?hu ?_); (case B => k_asm); (case F => k_asm); (case X => k_asm); (case N => k_asm); (case T => k_asm); (case hP => assumption); (case e => walk_at "m_split"); (case hne => assumption); (case h0 => decide +kernel); (case hpy => exact noPy_small (by decide +kernel)); (case hn => walk_at "m_off"); (case hd => exact Nat.le_of_ble_eq_true rfl); (case hu => exact Nat.le_of_ble_eq_true rfl); (intro r' foot' h' tk' F' N' D' P'; obtain ⟨⟨x', t', hr', h0', h1'⟩, hP'⟩ := P'; subst hr'; (try simp only [List.nil_append, List.cons_append] at N'); (try k_sweep); (try k_fold))))

theorem wreset_D2 : True := by
  w_top off
  exact True.intro
def lawTexts : List Str := ["list", "memory", "system", "", "foo bar", "[]"]

set_option maxHeartbeats 4000000 in
theorem text_ok {prog : Program} {w : World} {p nl : Addr} {foot : List (Addr × Obj)} (hne : @Ne Nat p nl) (hP : PotL p nl foot) :
    CallOk prog w 399 990 (.ref 242) [.ref p] foot (fun r foot' => (∃ x t, r = .str x t ∧ x ∈ lawTexts) ∧ PotL p nl foot') := by
  walk_at "CallOk"
  k_steps
  refine sub_list (fun v => ∃ x t, v = .str x t ∧ x ∈ lawTexts) (by k_asm) (by k_mem) (by assumption) (by assumption) (by omega) ?_ ?_
  · intro x hx
    simp only [List.mem_cons, List.not_mem_nil, or_false] at hx
    rcases hx with rfl | rfl | rfl | rfl | rfl | rfl <;> exact ⟨_, _, rfl, by decide⟩
  · rintro _ ⟨x, t, rfl, hx⟩
    k_steps
    exact give_ ⟨⟨x, t, rfl, hx⟩, by assumption⟩ (by walk_at "m_sub")

theorem wreset_D3 : True := by
  w_top off
  exact True.intro
abbrev tupOf (its : List Value) : Obj := { cls := .type "tuple", data := .seq its.toArray }
/-- a culprit: a tuple of data, with what it holds -/
def CulpR (p nl : Addr) (r : Value) (l : List (Addr × Obj)) : Prop := ∃ a its d cs pl, r = .ref a ∧ l = cs ++ pl ∧ (a, tupOf its) ∈ cs ∧ DatIn cs (.ref a) d ∧ kqdOk 6 d = true ∧ (∀ q ∈ cs, q.2.cls = .type "tuple") ∧ PotL p nl pl

theorem culp_give1 {p nl a : Addr} {x : Str} {t u : Tok} {i : Int} {pl : List (Addr × Obj)} (hx : PyData.strOk x = true) (hP : PotL p nl pl) : Give ((a, tupOf [.str x t, .int i u]) :: pl) (CulpR p nl (.ref a)) :=
  give_ (l := [(a, tupOf [.str x t, .int i u])] ++ pl) ⟨a, _, .tuple [.str x, .int i], [(a, tupOf [.str x t, .int i u])], pl, rfl, rfl, .head _, .tuple (.head _) (.cons (.str _ _) (.cons (.int _ _) .nil)), by simp [kqdOk, hx], (fun q hq => by rw [List.mem_singleton.mp hq]), hP⟩ fun q hq => hq
theorem culp_give4 {p nl a b c e : Addr} {t t2 u u2 t3 u3 : Tok} {i j k : Int} {pl : List (Addr × Obj)} (hP : PotL p nl pl) :
    Give ((a, tupOf [.str "s" t, .int k u, .ref b]) :: (b, tupOf [.ref e, .ref c]) :: (c, tupOf [.str "i" t2, .int i u2]) :: (e, tupOf [.str "a" t3, .int j u3]) :: pl) (CulpR p nl (.ref a)) := by
  refine give_ (l := [(a, tupOf [.str "s" t, .int k u, .ref b]), (b, tupOf [.ref e, .ref c]), (c, tupOf [.str "i" t2, .int i u2]), (e, tupOf [.str "a" t3, .int j u3])] ++ pl)
    ⟨a, _, .tuple [.str "s", .int k, .tuple [.tuple [.str "a", .int j], .tuple [.str "i", .int i]]], [(a, tupOf [.str "s" t, .int k u, .ref b]), (b, tupOf [.ref e, .ref c]), (c, tupOf [.str "i" t2, .int i u2]), (e, tupOf [.str "a" t3, .int j u3])], pl, rfl, rfl, .head _, ?_, ?_, ?_, hP⟩ fun q hq => hq
  · exact .tuple (.head _) (.cons (.str _ _) (.cons (.int _ _) (.cons (.tuple (.tail _ (.head _)) (.cons (.tuple (.tail _ (.tail _ (.tail _ (.head _)))) (.cons (.str _ _) (.cons (.int _ _) .nil))) (.cons (.tuple (.tail _ (.tail _ (.head _))) (.cons (.str _ _) (.cons (.int _ _) .nil))) .nil))) .nil)))
  · have h1 : PyData.strOk "s" = true := by decide +kernel
    have h2 : PyData.strOk "a" = true := by decide +kernel
    have h3 : PyData.strOk "i" = true := by decide +kernel
    simp [kqdOk, h1, h2, h3]
  · intro q hq
    simp only [List.mem_cons, List.not_mem_nil, or_false] at hq
    rcases hq with rfl | rfl | rfl | rfl <;> rfl

set_option maxHeartbeats 4000000 in
theorem culprit_ok {prog : Program} {w : World} {p nl : Addr} {foot : List (Addr × Obj)} (hne : @Ne Nat p nl) (hP : PotL p nl foot) :
    CallOk prog w 399 990 (.ref 249) [.ref p] foot (CulpR p nl) := by
  walk_at "CallOk"
  k_steps
  · exact culp_give1 (by decide +kernel) (by assumption)
  · exact culp_give1 (by decide +kernel) (by assumption)
  · exact culp_give1 (by decide +kernel) (by assumption)
  · exact culp_give4 (by assumption)

theorem wreset_D4 : True := by
  w_top off
  exact True.intro
/-- each key's value is its place -/
def NumsAre {K : Type} (ks : List K) (kvs : List (K × Value)) : Prop := kvs.map (·.1) = ks ∧ ∀ i (h : i < kvs.length), ∃ t, (kvs[i]'h).2 = .int i t
inductive TxtsAre : List Value → List Str → Prop
  | nil : TxtsAre [] []
  | cons (x : Str) (t : Tok) {vs : List Value} {xs : List Str} : TxtsAre vs xs → TxtsAre (.str x t :: vs) (x :: xs)

theorem TxtsAre.length {vs : List Value} {xs : List Str} (h : TxtsAre vs xs) : vs.length = xs.length := by
  induction h with
  | nil => rfl
  | cons _ _ _ ih => simp [ih]
theorem TxtsAre.push {vs : List Value} {xs : List Str} (h : TxtsAre vs xs) (x : Str) (t : Tok) : TxtsAre (vs ++ [.str x t]) (xs ++ [x]) := by
  induction h with
  | nil => exact .cons x t .nil
  | cons y u _ ih => exact .cons y u ih
theorem TxtsAre.get {vs : List Value} {xs : List Str} (h : TxtsAre vs xs) : ∀ {i : Nat} {x : Str}, xs[i]? = some x → ∃ t, vs[i]? = some (.str x t) := by
  induction h with
  | nil => intro i x e; simp at e
  | cons y u _ ih =>
    intro i x e
    cases i with
    | zero => simp at e; subst e; exact ⟨u, rfl⟩
    | succ j => simpa using ih (by simpa using e)

theorem NumsAre.length {K : Type} {ks : List K} {kvs : List (K × Value)} (h : NumsAre ks kvs) : kvs.length = ks.length := by rw [← h.1]; simp
theorem NumsAre.push {K : Type} {ks : List K} {kvs : List (K × Value)} (h : NumsAre ks kvs) (k : K) (t : Tok) : NumsAre (ks ++ [k]) (kvs ++ [(k, .int (ks.length : Nat) t)]) := by
  refine ⟨by simp [h.1], fun i hi => ?_⟩
  have hl := h.length
  rcases Nat.lt_or_ge i kvs.length with h1 | h1
  · rw [List.getElem_append_left h1]; exact h.2 i h1
  · have e : i = kvs.length := by simp at hi; omega
    subst e
    exact ⟨t, by rw [List.getElem_append_right (Nat.le_refl _)]; simp [hl]⟩

section
variable {K : Type} [DecidableEq K]
theorem NumsAre.at_none {ks : List K} {kvs : List (K × Value)} (h : NumsAre ks kvs) {k : K} (hk : k ∉ ks) : valueAt kvs k = none := by
  unfold valueAt
  rw [Option.map_eq_none_iff, List.find?_eq_none]
  intro kv hkv e
  apply hk
  rw [← h.1, ← of_decide_eq_true e]
  exact List.mem_map_of_mem hkv
theorem NumsAre.at_some {ks : List K} {kvs : List (K × Value)} (h : NumsAre ks kvs) {k : K} (hk : k ∈ ks) : ∃ i t, valueAt kvs k = some (.int (i : Nat) t) ∧ ks[i]? = some k := by
  unfold valueAt
  rw [← h.1] at hk
  obtain ⟨kv, hkv, rfl⟩ := List.mem_map.mp hk
  cases hf : kvs.find? fun x => x.1 = kv.1 with
  | none =>
    rw [List.find?_eq_none] at hf
    exact absurd (by simp) (hf kv hkv)
  | some y =>
    have hy := List.mem_of_find?_eq_some hf
    have he : y.1 = kv.1 := by simpa using List.find?_some hf
    obtain ⟨i, hi, rfl⟩ := List.mem_iff_getElem.mp hy
    obtain ⟨t, ht⟩ := h.2 i hi
    refine ⟨i, t, by simp [ht], ?_⟩
    rw [← h.1, List.getElem?_map, List.getElem?_eq_getElem hi, Option.map_some, he]
theorem stored_new {kvs : List (K × Value)} {k : K} {v : Value} (h : k ∉ kvs.map (·.1)) : stored kvs k v = kvs ++ [(k, v)] := by
  unfold stored
  rw [if_neg]
  intro e
  rw [List.any_eq_true] at e
  obtain ⟨kv, hkv, e⟩ := e
  exact h (by rw [← of_decide_eq_true e]; exact List.mem_map_of_mem hkv)
end

def TupDictO (prog : Program) (w : World) (o : Obj) (xs : List (List Int × Addr × Value)) : Prop :=
  ∃ es ep, o.ExactDict ∧ o.data = .dict es ep ∧ es.toList = xs.map (entryOfKey (tupleKind (intKind prog w))) ∧ (xs.map (·.1)).Nodup

structure SymS (prog : Program) (w : World) (b dx tx an fs fn : Addr) (atoms : List Str) (funs : List (List Int)) (l : List (Addr × Obj)) : Prop where
  out : ∃ h1 h2 h3 h4 t1 t2 t3 t4 n n1 n2 tvs oA kvs oF xs ex,
    l = (b, instObj 147 dx) :: (dx, dictOf [⟨h1, .str "texts" t1, .ref tx⟩, ⟨h2, .str "atom_numbers" t2, .ref an⟩, ⟨h3, .str "functors" t3, .ref fs⟩, ⟨h4, .str "functor_numbers" t4, .ref fn⟩] n) ::
      (tx, listOf (List.toArray tvs) n1) :: (an, oA) :: (fs, listOf (List.toArray (xs.map fun x => .ref x.2.1)) n2) :: (fn, oF) :: ex ∧
    TxtsAre tvs atoms ∧ atoms.Nodup ∧ oA.IsDictOf (strKind prog w) kvs ∧ NumsAre atoms kvs ∧ (an == sysModules) = false ∧
    TupDictO prog w oF xs ∧ NumsAre funs (xs.map fun x => (x.1, x.2.2)) ∧ (fn == sysModules) = false ∧
    (∀ x ∈ xs, ∃ its, (x.2.1, tupOf its) ∈ ex ∧ ItemsAre (intKind prog w) x.1 its) ∧ (∀ p ∈ ex, p.2.cls = .type "tuple")
  lt1 : @LT.lt Nat _ dx b
  lt2 : @LT.lt Nat _ b tx
  lt3 : @LT.lt Nat _ tx an
  lt4 : @LT.lt Nat _ an fs
  lt5 : @LT.lt Nat _ fs fn

theorem symS_mk {prog : Program} {w : World} {b dx tx an fs fn : Addr} {atoms : List Str} {funs : List (List Int)} {h1 h2 h3 h4 : Int} {t1 t2 t3 t4 : Tok} {n n1 n2 : Nat} {tvs : List Value} {oA oF : Obj} {kvs : List (Str × Value)} {xs : List (List Int × Addr × Value)} {ex : List (Addr × Obj)}
    (l1 : @LT.lt Nat _ dx b) (l2 : @LT.lt Nat _ b tx) (l3 : @LT.lt Nat _ tx an) (l4 : @LT.lt Nat _ an fs) (l5 : @LT.lt Nat _ fs fn)
    (hT : TxtsAre tvs atoms) (hnd : atoms.Nodup) (hA : oA.IsDictOf (strKind prog w) kvs) (hK : NumsAre atoms kvs) (hm1 : (an == sysModules) = false)
    (hF : TupDictO prog w oF xs) (hG : NumsAre funs (xs.map fun x => (x.1, x.2.2))) (hm2 : (fn == sysModules) = false)
    (hX : ∀ x ∈ xs, ∃ its, (x.2.1, tupOf its) ∈ ex ∧ ItemsAre (intKind prog w) x.1 its) (hC : ∀ p ∈ ex, p.2.cls = .type "tuple") :
    SymS prog w b dx tx an fs fn atoms funs ((b, instObj 147 dx) :: (dx, dictOf [⟨h1, .str "texts" t1, .ref tx⟩, ⟨h2, .str "atom_numbers" t2, .ref an⟩, ⟨h3, .str "functors" t3, .ref fs⟩, ⟨h4, .str "functor_numbers" t4, .ref fn⟩] n) ::
      (tx, listOf (List.toArray tvs) n1) :: (an, oA) :: (fs, listOf (List.toArray (xs.map fun x => .ref x.2.1)) n2) :: (fn, oF) :: ex) :=
  ⟨⟨h1, h2, h3, h4, t1, t2, t3, t4, n, n1, n2, tvs, oA, kvs, oF, xs, ex, rfl, hT, hnd, hA, hK, hm1, hF, hG, hm2, hX, hC⟩, l1, l2, l3, l4, l5⟩

def addAtom (l : List Str) (x : Str) : List Str := if x ∈ l then l else l ++ [x]

theorem newsNe {h₀ h : Heap} {L D : Addr} {news ex : List (Addr × Obj)} {oD : Obj} (N : News h₀ L h news) (hD : (D, oD) ∈ news) (hc : oD.cls ≠ .type "tuple") (hs : ∀ p ∈ ex, p ∈ news) (ht : ∀ p ∈ ex, p.2.cls = .type "tuple") : ∀ p ∈ ex, p.1 ≠ D := by
  intro p hp e
  have h1 := (N p (hs p hp)).1
  rw [e, (N _ hD).1] at h1
  have h2 : oD = p.2 := Option.some.inj h1
  exact hc (h2 ▸ ht p hp)

theorem notTup {n : String} (h : n ≠ "tuple") : (Value.type n) ≠ .type "tuple" := fun e => by injection e with e; exact h e
theorem six_ne {prog : Program} {w : World} {h₀ h : Heap} {L b dx tx an fs fn : Addr} {ob od oA oF : Obj} {kvs : List (Str × Value)} {xs : List (List Int × Addr × Value)} {i1 i2 : Array Value} {n1 n2 : Nat} {ex : List (Addr × Obj)}
    (N : News h₀ L h ((b, ob) :: (dx, od) :: (tx, listOf i1 n1) :: (an, oA) :: (fs, listOf i2 n2) :: (fn, oF) :: ex)) (hA : oA.IsDictOf (strKind prog w) kvs) (hF : TupDictO prog w oF xs) (hC : ∀ p ∈ ex, p.2.cls = .type "tuple") :
    (∀ p ∈ ex, p.1 ≠ tx) ∧ (∀ p ∈ ex, p.1 ≠ an) ∧ (∀ p ∈ ex, p.1 ≠ fs) ∧ (∀ p ∈ ex, p.1 ≠ fn) := by
  have hs : ∀ p ∈ ex, p ∈ ((b, ob) :: (dx, od) :: (tx, listOf i1 n1) :: (an, oA) :: (fs, listOf i2 n2) :: (fn, oF) :: ex) := fun p hp => by simp [hp]
  obtain ⟨_, _, a1, _⟩ := hA
  obtain ⟨_, _, f1, _⟩ := hF
  exact ⟨newsNe N (oD := listOf _ _) (by k_mem) (notTup (n := "list") (by decide)) hs hC, newsNe N (oD := oA) (by k_mem) (by rw [a1.1]; exact notTup (n := "dict") (by decide)) hs hC, newsNe N (oD := listOf _ _) (by k_mem) (notTup (n := "list") (by decide)) hs hC, newsNe N (oD := oF) (by k_mem) (by rw [f1.1]; exact notTup (n := "dict") (by decide)) hs hC⟩

set_option maxHeartbeats 4000000 in
theorem atom_ok {prog : Program} {w : World} {b dx tx an fs fn : Addr} {atoms : List Str} {funs : List (List Int)} {foot : List (Addr × Obj)} {x : Str} {t : Tok} (hS : SymS prog w b dx tx an fs fn atoms funs foot) (hlen : atoms.length ≤ 1000) :
    CallOk prog w 380 900 (.ref 81) [.ref b, .str x t] foot (fun r foot' => (∃ i t', r = .int (i : Nat) t' ∧ (addAtom atoms x)[i]? = some x) ∧ SymS prog w b dx tx an fs fn (addAtom atoms x) funs foot') := by
  obtain ⟨⟨h1, h2, h3, h4, t1, t2, t3, t4, n, n1, n2, tvs, oA, kvs, oF, xs, ex, rfl, hT, hnd, hA, hK, hm1, hF, hG, hm2, hX, hC⟩, l1, l2, l3, l4, l5⟩ := hS
  walk_at "CallOk"
  (rename News _ _ _ _ => N0)
  obtain ⟨e1, e2, e3, e4⟩ := six_ne N0 hA hF hC
  k_steps
  by_cases hx : x ∈ atoms
  · obtain ⟨i, t', hv, hi⟩ := hK.at_some hx
    refine kdg_get2 (knd := strKind _ _) (by k_asm) (by k_mem) hA hm1 (strKind_is _ _ _ _) _ hv ?_
    (try dsimp only [Option.getD])
    k_steps
    refine give_ ⟨⟨i, t', rfl, ?_⟩, ?_⟩ (by walk_at "m_sub")
    · rw [addAtom, if_pos hx]; exact hi
    · rw [addAtom, if_pos hx]; exact symS_mk l1 l2 l3 l4 l5 hT hnd hA hK hm1 hF hG hm2 hX hC
  · have hv := hK.at_none hx
    have htl : tvs.length = atoms.length := hT.length
    have hkl : kvs.length = atoms.length := hK.length
    refine kdg_get2 (knd := strKind _ _) (by k_asm) (by k_mem) hA hm1 (strKind_is _ _ _ _) _ hv ?_
    (try dsimp only [Option.getD])
    k_steps
    (rename Obj.IsDictOf _ _ (stored _ _ _) => hA')
    rw [stored_new (by rw [hK.1]; exact hx), htl] at hA'
    refine give_ ⟨⟨tvs.length, _, rfl, ?_⟩, ?_⟩ (by walk_at "m_sub")
    · rw [addAtom, if_neg hx, htl]; simp
    · rw [addAtom, if_neg hx]
      exact symS_mk l1 l2 l3 l4 l5 (hT.push x t) (List.nodup_append.mpr ⟨hnd, by simp, by simp; intro a ha e; exact hx (e ▸ ha)⟩) hA' (hK.push x _) hm1 hF hG hm2 hX hC

theorem wreset_D5 : True := by
  w_top off
  exact True.intro
section
variable {prog : Program} {w : World} {A : Around} {E : Value → Shared → Prop} {s : Shared} {h₀ : Heap} {L d a : Addr} {m : Str → Option Value} {news : List (Addr × Obj)} {o : Obj} {xs : List (List Int × Addr × Value)} {its : List Value} {ks : List Int}
theorem tupKey (N : News h₀ L s.heap news) (hka : (a, tupOf its) ∈ news) (hi : ItemsAre (intKind prog w) ks its) : IsTupleKey (intKind prog w) s.heap ks a :=
  ⟨tupOf its, its.toArray, 0, (N _ hka).1, rfl, rfl, hi⟩
theorem tupDict (N : News h₀ L s.heap news) (hp : (d, o) ∈ news) (hd : TupDictO prog w o xs) (hk : ∀ x ∈ xs, ∃ its, (x.2.1, tupOf its) ∈ news ∧ ItemsAre (intKind prog w) x.1 its) : s.heap.DictOfH (tupleKind (intKind prog w)) d xs := by
  obtain ⟨es, ep, h1, h2, h3, h4⟩ := hd
  exact ⟨o, es, ep, (N _ hp).1, h1, h2, h3, fun x hx => let ⟨_, q, r⟩ := hk x hx; tupKey N q r, h4⟩
theorem tupMethod {pl : Sem Bool} {Q : Value × List Value → Shared → Prop} (N : News h₀ L s.heap news) (hp : (d, o) ∈ news) (hd : TupDictO prog w o xs) (hk : ∀ x ∈ xs, ∃ its, (x.2.1, tupOf its) ∈ news ∧ ItemsAre (intKind prog w) x.1 its)
    (h : Q (.builtin "dict.get", [.ref d]) s) : wpAny (model prog w) A (getMethod (.ref d) "get" pl) Q E s :=
  have hD := tupDict N hp hd hk
  getMethod_builtin hD.typeIs PySem.F.plainAttrs_dict PySem.F.slot_dict_get PySem.F.type_dict_get (dictOfH_noDict hD) h
theorem tupGet2 {dflt : Value} {Q : Value → Shared → Prop} (N : News h₀ L s.heap news) (hp : (d, o) ∈ news) (hd : TupDictO prog w o xs) (hk : ∀ x ∈ xs, ∃ its, (x.2.1, tupOf its) ∈ news ∧ ItemsAre (intKind prog w) x.1 its)
    (lo : (d == sysModules) = false) (hka : (a, tupOf its) ∈ news) (hi : ItemsAre (intKind prog w) ks its) (hu : A.units + 1 < cLine) {x : Option Value} (hx : (atKey xs ks).map (·.2) = x)
    (h : Q (x.getD dflt) { s with toks := s.toks + (ks.length + 1) }) : wpAny (model prog w) A (call (.builtin "dict.get") [.ref d, .ref a, dflt]) Q E s := by
  have hD := tupDict N hp hd hk
  subst hx
  exact call_meetsIn PySem.F.slot_dict_get hD.typeIs PySem.F.entry_dict_get (PySem.F.args_dict_get_3 _ _ _) (meetsH_dict_get_default (tupleKind (intKind prog w)) d a lo dflt) ⟨hu, ks, xs, tupKey N hka hi, hD, h⟩
theorem tupSet {v : Value} {g : Obj → List (Addr × Obj)} {Q : Unit → Shared → Prop} (F : Fr h₀ L s.heap m) (N : News h₀ L s.heap news) (U : UpdF d o news g) (hp : (d, o) ∈ news) (hd : TupDictO prog w o xs)
    (hk : ∀ x ∈ xs, ∃ its, (x.2.1, tupOf its) ∈ news ∧ ItemsAre (intKind prog w) x.1 its) (hka : (a, tupOf its) ∈ news) (hi : ItemsAre (intKind prog w) ks its) (hu : A.units + 1 < cLine) (hz : xs.length ≤ 100000)
    (h : ∀ h' o', Fr h₀ L h' m → News h₀ L h' (g o') → TupDictO prog w o' (storedH xs ks a v) → Q () { s with heap := h', toks := s.toks + (ks.length + 1) }) : wpAny (model prog w) A (setItem (.ref d) (.ref a) v) Q E s := by
  have hD := tupDict N hp hd hk
  obtain ⟨pre, post, rfl, hg, b1, b2⟩ := U.split
  refine wpAny_setItem_heap (hsz := by rw [sizeLine_eq]; omega) (knd := tupleKind (intKind prog w)) hu (tupKey N hka hi) hD fun h' hm' hs => ?_
  obtain ⟨o', es', ep', ho', hc', hd', he', _, hn'⟩ := hm'
  exact h h' o' (F.change hs (N _ hp).2.1 (N _ hp).2.2) (hg o' ▸ N.setIn b1 b2 hs ho') ⟨es', ep', hc', hd', he', hn'⟩
end

theorem six_move {a b c d e f x : Addr × Obj} {ex : List (Addr × Obj)} : ∀ p ∈ (a :: b :: c :: d :: e :: f :: x :: ex), p ∈ (x :: a :: b :: c :: d :: e :: f :: ex) := by
  intro p hp
  simp only [List.mem_cons] at hp ⊢
  rcases hp with h | h | h | h | h | h | h | h <;> simp [h]

def addFun (l : List (List Int)) (k : List Int) : List (List Int) := if k ∈ l then l else l ++ [k]

theorem items2 (prog : Program) (w : World) (a n : Int) (ta tn : Tok) : ItemsAre (intKind prog w) [a, n] [.int a ta, .int n tn] := .cons (intKind_is _ _ _ _) (.cons (intKind_is _ _ _ _) .nil)

theorem symS_grow {prog : Program} {w : World} {b dx tx an fs fn D : Addr} {atoms : List Str} {funs : List (List Int)} {k : List Int} {its : List Value} {h1 h2 h3 h4 : Int} {t1 t2 t3 t4 : Tok} {n n1 n2 : Nat} {tvs : List Value} {oA oF : Obj} {kvs : List (Str × Value)} {xs : List (List Int × Addr × Value)} {ex : List (Addr × Obj)} {z : Int} {t : Tok}
    (l1 : @LT.lt Nat _ dx b) (l2 : @LT.lt Nat _ b tx) (l3 : @LT.lt Nat _ tx an) (l4 : @LT.lt Nat _ an fs) (l5 : @LT.lt Nat _ fs fn)
    (hT : TxtsAre tvs atoms) (hnd : atoms.Nodup) (hA : oA.IsDictOf (strKind prog w) kvs) (hK : NumsAre atoms kvs) (hm1 : (an == sysModules) = false)
    (hF : TupDictO prog w oF (xs ++ [(k, D, .int z t)])) (hG : NumsAre funs (xs.map fun x => (x.1, x.2.2))) (hz : z = (funs.length : Nat)) (hm2 : (fn == sysModules) = false)
    (hX : ∀ x ∈ xs, ∃ its, (x.2.1, tupOf its) ∈ ex ∧ ItemsAre (intKind prog w) x.1 its) (hi : ItemsAre (intKind prog w) k its) (hC : ∀ p ∈ ex, p.2.cls = .type "tuple") :
    SymS prog w b dx tx an fs fn atoms (funs ++ [k]) ((b, instObj 147 dx) :: (dx, dictOf [⟨h1, .str "texts" t1, .ref tx⟩, ⟨h2, .str "atom_numbers" t2, .ref an⟩, ⟨h3, .str "functors" t3, .ref fs⟩, ⟨h4, .str "functor_numbers" t4, .ref fn⟩] n) ::
      (tx, listOf (List.toArray tvs) n1) :: (an, oA) :: (fs, listOf (List.toArray ((xs.map fun x => .ref x.2.1) ++ [.ref D])) n2) :: (fn, oF) :: (D, tupOf its) :: ex) := by
  subst hz
  have hG' := hG.push k t
  have e : (xs.map fun x => (.ref x.2.1 : Value)) ++ [.ref D] = (xs ++ [(k, D, Value.int (funs.length : Nat) t)]).map fun x => (Value.ref x.2.1) := by simp
  rw [e]
  refine symS_mk l1 l2 l3 l4 l5 hT hnd hA hK hm1 hF (by simpa using hG') hm2 (fun x hx => ?_) fun p hp => ?_
  · rcases List.mem_append.mp hx with h | h
    · obtain ⟨i, q, r⟩ := hX x h
      exact ⟨i, .tail _ q, r⟩
    · rw [List.mem_singleton.mp h]
      exact ⟨its, .head _, hi⟩
  · rcases List.mem_cons.mp hp with rfl | h
    · rfl
    · exact hC p h

set_option maxHeartbeats 4000000 in
theorem functor_ok {prog : Program} {w : World} {b dx tx an fs fn : Addr} {atoms : List Str} {funs : List (List Int)} {foot : List (Addr × Obj)} {a n : Int} {ta tn : Tok} (hS : SymS prog w b dx tx an fs fn atoms funs foot) (hlen : funs.length ≤ 1000) :
    CallOk prog w 380 900 (.ref 95) [.ref b, .int a ta, .int n tn] foot (fun r foot' => (∃ i t', r = .int (i : Nat) t' ∧ (addFun funs [a, n])[i]? = some [a, n]) ∧ SymS prog w b dx tx an fs fn atoms (addFun funs [a, n]) foot') := by
  obtain ⟨⟨h1, h2, h3, h4, t1, t2, t3, t4, n0, n1, n2, tvs, oA, kvs, oF, xs, ex, rfl, hT, hnd, hA, hK, hm1, hF, hG, hm2, hX, hC⟩, l1, l2, l3, l4, l5⟩ := hS
  walk_at "CallOk"
  (rename News _ _ _ _ => N0)
  obtain ⟨e1, e2, e3, e4⟩ := six_ne N0 hA hF hC
  have hX' : ∀ pre : List (Addr × Obj), ∀ x ∈ xs, ∃ its, (x.2.1, tupOf its) ∈ pre ++ ex ∧ ItemsAre (intKind prog w) x.1 its := fun pre x hx => let ⟨i, q, r⟩ := hX x hx; ⟨i, List.mem_append_right _ q, r⟩
  k_steps
  refine tupMethod (by k_asm) (by k_mem) hF (hX' [_, _, _, _, _, _, _]) ?_
  k_steps
  by_cases hx : [a, n] ∈ funs
  · obtain ⟨i, t', hv, hi⟩ := hG.at_some hx
    have hv' := (valueAt_kvsOf xs [a, n]).symm.trans hv
    refine tupGet2 (by k_asm) (by k_mem) hF (hX' [_, _, _, _, _, _, _]) hm2 (by k_mem) (items2 prog w a n ta tn) (Nat.le_of_ble_eq_true rfl) hv' ?_
    (try dsimp only [Option.getD])
    k_steps
    refine give_ (l := _ :: _ :: _ :: _ :: _ :: _ :: ex) ⟨⟨i, t', rfl, ?_⟩, ?_⟩ (by walk_at "m_sub")
    · rw [addFun, if_pos hx]; exact hi
    · rw [addFun, if_pos hx]; exact symS_mk l1 l2 l3 l4 l5 hT hnd hA hK hm1 hF hG hm2 hX hC
  · have hv := hG.at_none hx
    have hv' := (valueAt_kvsOf xs [a, n]).symm.trans hv
    have hxl : xs.length = funs.length := by have := hG.length; simpa using this
    refine tupGet2 (by k_asm) (by k_mem) hF (hX' [_, _, _, _, _, _, _]) hm2 (by k_mem) (items2 prog w a n ta tn) (Nat.le_of_ble_eq_true rfl) hv' ?_
    (try dsimp only [Option.getD])
    k_steps
    refine' tupSet ?F ?N ?U ?hp hF ?hk ?hka (items2 prog w a n ta tn) ?hu ?hz ?_
    case F => k_asm
    case N => k_asm
    case U => k_updF
    case hp => k_mem
    case hk => exact hX' [_, _, _, _, _, _, _]
    case hka => k_mem
    case hu => exact Nat.le_of_ble_eq_true rfl
    case hz => omega
    intro h' o' F' N' hd'
    (try dsimp only at N')
    k_steps
    rw [storedH_new (Option.map_eq_none_iff.mp hv')] at hd'
    refine give_ (P := fun foot' => (∃ i t', _ = Value.int (i : Nat) t' ∧ (addFun funs [a, n])[i]? = some [a, n]) ∧ SymS prog w b dx tx an fs fn atoms (addFun funs [a, n]) foot') ⟨⟨_, _, rfl, ?_⟩, ?_⟩ six_move
    · rw [addFun, if_neg hx, List.length_map, hxl]; simp
    · rw [addFun, if_neg hx]
      exact symS_grow l1 l2 l3 l4 l5 hT hnd hA hK hm1 hd' hG (by simp [hxl]) hm2 hX (items2 prog w a n ta tn) hC

theorem wreset_D6 : True := by
  w_top off
  exact True.intro
theorem symOpen {prog : Program} {w : World} {b dx tx an fs fn : Addr} {atoms : List Str} {funs : List (List Int)} {foot : List (Addr × Obj)} (hS : SymS prog w b dx tx an fs fn atoms funs foot) :
    ∃ h1 h2 h3 h4 t1 t2 t3 t4 n rest, foot = (b, instObj 147 dx) :: (dx, dictOf [⟨h1, .str "texts" t1, .ref tx⟩, ⟨h2, .str "atom_numbers" t2, .ref an⟩, ⟨h3, .str "functors" t3, .ref fs⟩, ⟨h4, .str "functor_numbers" t4, .ref fn⟩] n) :: rest := by
  obtain ⟨⟨h1, h2, h3, h4, t1, t2, t3, t4, n0, n1, n2, tvs, oA, kvs, oF, xs, ex, rfl, _⟩, _⟩ := hS
  exact ⟨h1, h2, h3, h4, t1, t2, t3, t4, n0, _, rfl⟩

local macro_rules | `(tactic| walk_at "Halt") => `(tactic| ((with_reducible show Halt (wpAny _ _ (call (Value.ref 81) _) _ _ _)); refine' Halt.mk (callOk_tail (atom_ok ?hS ?hl) ?B ?F ?X ?N ?T ?e ?hn rfl rfl rfl rfl ?hd ?hu ?_); (case B => k_asm); (case F => k_asm); (case X => k_asm); (case N => k_asm); (case T => k_asm); (case hS => assumption); (case e => walk_at "m_split"); (case hl => first | assumption | omega); (case hn => walk_at "m_off"); (case hd => exact Nat.le_of_ble_eq_true rfl); (case hu => exact Nat.le_of_ble_eq_true rfl); (intro r' foot' h' tk' F' N' D' P'; obtain ⟨⟨i', t', hr', hi'⟩, hS'⟩ := P'; subst hr'; (obtain ⟨h1', h2', h3', h4', t1', t2', t3', t4', n', rest', e'⟩ := symOpen hS'); subst e'; (try simp only [List.nil_append, List.cons_append] at N'); (try k_sweep); (try k_fold))))
local macro_rules | `(tactic| walk_at "Halt") => `(tactic| ((with_reducible show Halt (wpAny _ _ (call (Value.ref 95) _) _ _ _)); refine' Halt.mk (callOk_tail (functor_ok ?hS ?hl) ?B ?F ?X ?N ?T ?e ?hn rfl rfl rfl rfl ?hd ?hu ?_); (case B => k_asm); (case F => k_asm); (case X => k_asm); (case N => k_asm); (case T => k_asm); (case hS => assumption); (case e => walk_at "m_split"); (case hl => first | assumption | omega); (case hn => walk_at "m_off"); (case hd => exact Nat.le_of_ble_eq_true rfl); (case hu => exact Nat.le_of_ble_eq_true rfl); (intro r' foot' h' tk' F' N' D' P'; obtain ⟨⟨i', t', hr', hi'⟩, hS'⟩ := P'; subst hr'; (obtain ⟨h1', h2', h3', h4', t1', t2', t3', t4', n', rest', e'⟩ := symOpen hS'); subst e'; (try simp only [List.nil_append, List.cons_append] at N'); (try k_sweep); (try k_fold))))

set_option maxHeartbeats 4000000 in
theorem func_ok {prog : Program} {w : World} {b dx tx an fs fn : Addr} {atoms : List Str} {funs : List (List Int)} {foot : List (Addr × Obj)} {x : Str} {n : Int} {t tn : Tok} (hS : SymS prog w b dx tx an fs fn atoms funs foot) (hl1 : atoms.length ≤ 1000) (hl2 : funs.length ≤ 1000) :
    CallOk prog w 379 890 (.ref 102) [.ref b, .str x t, .int n tn] foot (fun r foot' => ∃ (i j : Nat) (t' : Tok), (r = .int (j : Nat) t' ∧ (addAtom atoms x)[i]? = some x ∧ (addFun funs [((i : Nat) : Int), n])[j]? = some [((i : Nat) : Int), n]) ∧ SymS prog w b dx tx an fs fn (addAtom atoms x) (addFun funs [((i : Nat) : Int), n]) foot') := by
  obtain ⟨h1, h2, h3, h4, t1, t2, t3, t4, n', rest, rfl⟩ := symOpen hS
  walk_at "CallOk"
  k_steps
  exact give_ ⟨_, _, _, ⟨rfl, by assumption, by assumption⟩, by assumption⟩ (fun _ h => h)

theorem wreset_D7 : True := by
  w_top off
  exact True.intro
theorem sub_at {prog : Program} {w : World} {A : Around} {E : Value → Shared → Prop} {s : Shared} {h₀ : Heap} {L D : Addr} {news : List (Addr × Obj)} {its : List Value} {n : Nat} {i : Nat} {u : Tok} {value slice : PySem.Expr} {x : Value} {Q : Value → Shared → Prop}
    (N : News h₀ L s.heap news) (hm : (D, listOf its.toArray n) ∈ news) (hz : i < 100000) (hx : its[i]? = some x) (h : Q x s)
    (hs : subscripted slice false (.ref D) (.int i u) = operate [.ref D, .int i u] (getItem (.ref D) (.int i u)) := by with_unfolding_all rfl) (hg : ∀ r, letTemporaryGo value (.ref D) r = pure () := by intro _; with_unfolding_all rfl) :
    wpAny (model prog w) A (subscriptTail value slice (.ref D) (.int i u)) Q E s :=
  kim_list N hm rfl rfl (by omega) (by omega) (by simpa using hx) h hs hg

local macro_rules | `(tactic| walk_at "subscriptTail") => `(tactic| (k_here; (with_reducible show wpAny _ _ (subscriptTail _ _ (Value.ref _) (Value.int _ _)) _ _ _); (with_unfolding_all refine' sub_at ?N ?m ?z ?x ?_); (case N => k_asm); (case m => k_mem); (case x => with_reducible assumption); (case z => omega)))

set_option maxHeartbeats 4000000 in
theorem text_sym_ok {prog : Program} {w : World} {b dx tx an fs fn : Addr} {atoms : List Str} {funs : List (List Int)} {foot : List (Addr × Obj)} {x : Str} {i : Nat} {t : Tok} (hS : SymS prog w b dx tx an fs fn atoms funs foot) (hl1 : atoms.length ≤ 1000) (hx : atoms[i]? = some x) :
    CallOk prog w 380 900 (.ref 88) [.ref b, .int (i : Nat) t] foot (fun r foot' => (∃ t', r = .str x t') ∧ SymS prog w b dx tx an fs fn atoms funs foot') := by
  have hS0 := hS
  obtain ⟨⟨h1, h2, h3, h4, t1, t2, t3, t4, n0, n1, n2, tvs, oA, kvs, oF, xs, ex, rfl, hT, hnd, hA, hK, hm1, hF, hG, hm2, hX, hC⟩, l1, l2, l3, l4, l5⟩ := hS
  obtain ⟨u, hu⟩ := hT.get hx
  have hi : i < atoms.length := (List.getElem?_eq_some_iff.mp hx).1
  walk_at "CallOk"
  k_steps
  exact give_ ⟨⟨_, rfl⟩, hS0⟩ (fun _ h => h)

set_option maxHeartbeats 4000000 in
theorem count_ok {prog : Program} {w : World} {b dx tx an fs fn : Addr} {atoms : List Str} {funs : List (List Int)} {foot : List (Addr × Obj)} (hS : SymS prog w b dx tx an fs fn atoms funs foot) (hl1 : atoms.length ≤ 1000) :
    CallOk prog w 380 900 (.ref 130) [.ref b] foot (fun r foot' => (∃ t', r = .int (atoms.length : Nat) t') ∧ SymS prog w b dx tx an fs fn atoms funs foot') := by
  have hS0 := hS
  obtain ⟨⟨h1, h2, h3, h4, t1, t2, t3, t4, n0, n1, n2, tvs, oA, kvs, oF, xs, ex, rfl, hT, hnd, hA, hK, hm1, hF, hG, hm2, hX, hC⟩, l1, l2, l3, l4, l5⟩ := hS
  have htl : tvs.length = atoms.length := hT.length
  walk_at "CallOk"
  k_steps
  exact give_ ⟨⟨_, by rw [← htl]⟩, hS0⟩ (fun _ h => h)

set_option maxHeartbeats 4000000 in
theorem fcount_ok {prog : Program} {w : World} {b dx tx an fs fn : Addr} {atoms : List Str} {funs : List (List Int)} {foot : List (Addr × Obj)} (hS : SymS prog w b dx tx an fs fn atoms funs foot) (hl1 : funs.length ≤ 1000) :
    CallOk prog w 380 900 (.ref 137) [.ref b] foot (fun r foot' => (∃ t', r = .int (funs.length : Nat) t') ∧ SymS prog w b dx tx an fs fn atoms funs foot') := by
  have hS0 := hS
  obtain ⟨⟨h1, h2, h3, h4, t1, t2, t3, t4, n0, n1, n2, tvs, oA, kvs, oF, xs, ex, rfl, hT, hnd, hA, hK, hm1, hF, hG, hm2, hX, hC⟩, l1, l2, l3, l4, l5⟩ := hS
  have hxl : xs.length = funs.length := by have := hG.length; simpa using this
  walk_at "CallOk"
  k_steps
  exact give_ ⟨⟨_, by rw [← hxl, List.length_map]⟩, hS0⟩ (fun _ h => h)

theorem ledMem {h₀ h : Heap} {L : Addr} {a b c d e f p : Addr × Obj} {ex : List (Addr × Obj)} (_N : News h₀ L h (a :: b :: c :: d :: e :: f :: ex)) (hm : p ∈ ex) : p ∈ (a :: b :: c :: d :: e :: f :: ex) := by simp [hm]
theorem items2_inv {prog : Program} {w : World} {a n : Int} {its : List Value} (h : ItemsAre (intKind prog w) [a, n] its) : ∃ u v, its = [.int a u, .int n v] := by
  cases h with
  | cons h1 h' =>
    cases h' with
    | cons h2 h'' =>
      cases h''
      rename_i v1 v2
      cases v1 <;> simp [intKind, Value.isInt] at h1
      cases v2 <;> simp [intKind, Value.isInt] at h2
      subst h1; subst h2
      exact ⟨_, _, rfl⟩

set_option maxHeartbeats 4000000 in
theorem label_ok {prog : Program} {w : World} {b dx tx an fs fn : Addr} {atoms : List Str} {funs : List (List Int)} {foot : List (Addr × Obj)} {x : Str} {i j k : Nat} {t : Tok} (hS : SymS prog w b dx tx an fs fn atoms funs foot) (hl1 : atoms.length ≤ 1000) (hl2 : funs.length ≤ 1000)
    (hj : funs[j]? = some [((i : Nat) : Int), ((k : Nat) : Int)]) (hx : atoms[i]? = some x) (hxl : x.length ≤ 100) (hk : k ≤ 100) :
    CallOk prog w 380 900 (.ref 123) [.ref b, .int (j : Nat) t] foot (fun r foot' => (∃ t', r = .str (x ++ Str.ofString "/" ++ Str.ofString (toString ((k : Nat) : Int))) t') ∧ SymS prog w b dx tx an fs fn atoms funs foot') := by
  have hS0 := hS
  obtain ⟨⟨h1, h2, h3, h4, t1, t2, t3, t4, n0, n1, n2, tvs, oA, kvs, oF, xs, ex, rfl, hT, hnd, hA, hK, hm1, hF, hG, hm2, hX, hC⟩, l1, l2, l3, l4, l5⟩ := hS
  obtain ⟨u, hu⟩ := hT.get hx
  have hi : i < atoms.length := (List.getElem?_eq_some_iff.mp hx).1
  have hj' : j < funs.length := (List.getElem?_eq_some_iff.mp hj).1
  have hjx : j < xs.length := by have := hG.length; simp at this; omega
  have he : (xs[j]'hjx).1 = [((i : Nat) : Int), ((k : Nat) : Int)] := by
    have h := hG.1
    rw [← h] at hj
    simpa [hjx] using hj
  obtain ⟨its, hm, hits⟩ := hX _ (List.getElem_mem hjx)
  rw [he] at hits
  obtain ⟨u1, u2, rfl⟩ := items2_inv hits
  have hrow : (xs.map fun x => (Value.ref x.2.1))[j]? = some (.ref (xs[j]'hjx).2.1) := by simp [hjx]
  generalize (xs[j]'hjx).2.1 = ka at hm hrow
  walk_at "CallOk"
  (rename News _ _ _ _ => N0)
  have hmem := ledMem N0 hm
  k_steps
  exact give_ ⟨⟨_, by rw [PySem.Str.empty_append]⟩, hS0⟩ (fun _ h => h)

theorem wreset_Lp : True := by
  w_top off
  exact True.intro
/-- the end of a turn -/
def TurnQ (h₀ : Heap) (L : Addr) (pre : List (Addr × Obj)) (Jn : (Str → Option Value) → List (Addr × Obj) → Prop) (s₁ : Shared) (Q : Flow → Shared → Prop) (f : Flow) (s₂ : Shared) : Prop :=
  match f with
  | .ret v => Q (.ret v) s₂
  | .brk => Q .next s₂
  | _ => ∃ h' tk m' foot', s₂ = { s₁ with heap := h', toks := tk } ∧ Fr h₀ L h' m' ∧ News h₀ L h' (pre ++ foot') ∧ (∀ p ∈ pre, p.1 ∉ foot'.map (·.1)) ∧ Jn m' foot'
structure GiveT (full pre : List (Addr × Obj)) (P : List (Addr × Obj) → Prop) : Prop where
  out : ∃ foot', P foot' ∧ (∀ p ∈ pre, p.1 ∉ foot'.map (·.1)) ∧ (∀ p ∈ pre ++ foot', p ∈ full)
theorem turn_next {h₀ : Heap} {L : Addr} {pre full : List (Addr × Obj)} {Jn : (Str → Option Value) → List (Addr × Obj) → Prop} {s₁ s' : Shared} {Q : Flow → Shared → Prop} {m' : Str → Option Value}
    (F : Fr h₀ L s'.heap m') (N : News h₀ L s'.heap full) (e : s' = { s₁ with heap := s'.heap, toks := s'.toks }) (P : GiveT full pre (Jn m')) : TurnQ h₀ L pre Jn s₁ Q .next s' :=
  let ⟨l, h, hn, hs⟩ := P.out; ⟨s'.heap, s'.toks, m', l, e, F, fun p hp => N p (hs p hp), hn, h⟩

section
variable {prog : Program} {w : World} {A : Around} {E : Value → Shared → Prop} {s s₂ : Shared} {env : Env} {h₀ : Heap} {x : Str} {body : List Stmt} {Q : Flow → Shared → Prop}
theorem loop_led {I : Addr} {fp wr : List Addr} {n : Nat} {P : Nat → Value → Prop} {St : Nat → Heap → Prop} {m₀ : Str → Option Value} {keep foot : List (Addr × Obj)}
    (J : Nat → (Str → Option Value) → List (Addr × Obj) → Prop)
    (W : Walks prog w A I fp wr n P St) (hlive : ∀ i h, St i h → ∃ o, h.get? I = some o) (hfp : ∀ b ∈ fp, b = I ∨ (∃ o, (b, o) ∈ keep) ∨ ∃ o, h₀.get? b = some o) (hwr : wr = [I]) (hI₀ : h₀.get? I = none) (hLf : env.locals ∉ fp)
    (F : Fr h₀ env.locals s₂.heap m₀) (N : News h₀ env.locals s₂.heap (keep ++ foot)) (hIk : ∀ p ∈ keep, p.1 ≠ I) (hIf : ∀ p ∈ foot, p.1 ≠ I) (hoff : ∀ p ∈ keep, p.1 ∉ foot.map (·.1)) (hst : St 0 s₂.heap) (h0 : J 0 m₀ foot)
    (turn : ∀ i v m₁ foot₁ o h tk, i < n → P i v → J i m₁ foot₁ → (∀ p ∈ (I, o) :: keep, p.1 ∉ foot₁.map (·.1)) → (∀ p ∈ keep, p.1 ≠ I) → Fr h₀ env.locals h (fun y => if y = x then some v else m₁ y) → News h₀ env.locals h ((I, o) :: (keep ++ foot₁)) →
      wpAny (model prog w) A (execs body env) (TurnQ h₀ env.locals ((I, o) :: keep) (J (i + 1)) { s₂ with heap := h, toks := tk } Q) E { s₂ with heap := h, toks := tk })
    (done : ∀ m₁ foot₁ h tk, J n m₁ foot₁ → (∀ p ∈ keep, p.1 ∉ foot₁.map (·.1)) → Fr h₀ env.locals h m₁ → News h₀ env.locals h (keep ++ foot₁) → Q .next { s₂ with heap := h, toks := tk }) :
    LoopAtV prog w A h₀ env x body Q E (.ref I) s₂ := by
  subst hwr
  have hIfp : I ∈ fp := W.sub I (by simp)
  refine ⟨I, fp, [I], n, P, St, m₀, keep ++ foot, fun i m l => ∃ foot₁, l = keep ++ foot₁ ∧ (∀ p ∈ keep, p.1 ∉ foot₁.map (·.1)) ∧ (∀ p ∈ foot₁, p.1 ≠ I) ∧ J i m foot₁, rfl, W, hLf, ?_, ?_, hst, F, N, ⟨foot, rfl, hoff, hIf, h0⟩, ?_, ?_⟩
  · intro b hb; rw [List.mem_singleton.mp hb]; exact hI₀
  · intro p hp hI
    have e := List.mem_singleton.mp hI
    rcases List.mem_append.mp hp with h | h
    · exact hIk p h e
    · exact hIf p h e
  · rintro i v m₁ news₁ s₁ own ⟨h, tk, rfl⟩ hi hP ⟨foot₁, rfl, hoff₁, hI₁, hJ⟩ hnw hsub hget hall st F₁ N₁
    obtain ⟨oI, hoI⟩ := hlive _ _ st
    have hmI : (I, oI) ∈ own := hall I hIfp hI₀ oI hoI
    have N₂ : News h₀ env.locals h ((I, oI) :: (keep ++ foot₁)) := fun p hp => by
      rcases List.mem_cons.mp hp with rfl | hp
      · exact N₁ _ (List.mem_append_left _ hmI)
      · exact N₁ p (List.mem_append_right _ hp)
    have hoff₂ : ∀ p ∈ (I, oI) :: keep, p.1 ∉ foot₁.map (·.1) := fun p hp => by
      rcases List.mem_cons.mp hp with rfl | hp
      · intro q
        obtain ⟨r, hr, e⟩ := List.mem_map.mp q
        exact hI₁ r hr e
      · exact hoff₁ p hp
    refine wpAny_mono (turn i v m₁ foot₁ oI h tk hi hP hJ hoff₂ hIk F₁ N₂) (fun f s₃ h₃ => ?_) fun _ _ e => e
    have fin : (∃ h' tk' m' foot', s₃ = { s₂ with heap := h', toks := tk' } ∧ Fr h₀ env.locals h' m' ∧ News h₀ env.locals h' ((I, oI) :: keep ++ foot') ∧ (∀ p ∈ (I, oI) :: keep, p.1 ∉ foot'.map (·.1)) ∧ J (i + 1) m' foot') →
        LoopStepU h₀ env.locals [I] own (fun m l => ∃ foot₁, l = keep ++ foot₁ ∧ (∀ p ∈ keep, p.1 ∉ foot₁.map (·.1)) ∧ (∀ p ∈ foot₁, p.1 ≠ I) ∧ J (i + 1) m foot₁) { s₂ with heap := h, toks := tk } .next s₃ := by
      rintro ⟨h', tk', m', foot', rfl, F', N', ho', hJ'⟩
      have hI' : ∀ p ∈ foot', p.1 ≠ I := fun p hp e => ho' _ (.head _) (by show I ∈ foot'.map (·.1); rw [← e]; exact List.mem_map_of_mem hp)
      refine LoopStepU.intro (s₁ := { s₂ with heap := h, toks := tk }) F' (fun p hp => ?_) (fun p hp hb => ?_) ⟨foot', rfl, fun p hp => ho' p (.tail _ hp), hI', hJ'⟩
      · rcases List.mem_append.mp hp with h1 | h1
        · rcases hfp _ (hsub p h1) with e | ⟨o, ho⟩ | ⟨o, ho⟩
          · have h2 := hget p h1
            have h3 : h.get? p.1 = some p.2 := h2
            rw [e, hoI] at h3
            have : p = (I, oI) := Prod.ext e (Option.some.inj h3).symm
            rw [this]; exact N' _ (.head _)
          · have h2 : h.get? p.1 = some p.2 := hget p h1
            have h3 : h.get? p.1 = some o := (N₁ _ (List.mem_append_right _ (List.mem_append_left _ ho))).1
            rw [h2] at h3
            have : p = (p.1, o) := Prod.ext rfl (Option.some.inj h3)
            rw [this]; exact N' _ (List.mem_append_left _ (.tail _ ho))
          · have h2 := (N₁ p (List.mem_append_left _ h1)).2.2
            rw [ho] at h2; cases h2
        · rcases List.mem_append.mp h1 with h2 | h2
          · exact N' p (List.mem_append_left _ (.tail _ h2))
          · exact N' p (List.mem_append_right _ h2)
      · have e := List.mem_singleton.mp hb
        rcases List.mem_append.mp hp with h1 | h1
        · exact hIk p h1 e
        · exact hI' p h1 e
    cases f with
    | ret v => exact .ret h₃
    | brk => exact .brk h₃
    | next => exact .next (fin h₃)
    | cont => exact .cont (fin h₃)
  · rintro h' tk m' news' F' N' hn ⟨foot₁, rfl, ho, _, hJ⟩
    exact done m' foot₁ h' tk hJ ho F' N'

theorem seq_ne_locals {h : Heap} {L l : Addr} {m : Str → Option Value} {o : Obj} {items : Array Value} {n : Nat} (F : Fr h₀ L h m) (ho : h.get? l = some o) (hd : o.data = .seq items n) : l ≠ L := by
  rintro rfl
  obtain ⟨o', es, ep, ho', hd', _⟩ := F.ns
  rw [ho] at ho'
  cases ho'
  rw [hd] at hd'
  cases hd'

theorem iter_list {l : Addr} {o : Obj} {items : List Value} {k : Nat} {m₀ : Str → Option Value} {keep foot : List (Addr × Obj)} (J : Nat → (Str → Option Value) → List (Addr × Obj) → Prop) (hh : A.handled = none)
    (ho : s.heap.get? l = some o) (hc : o.cls = .type "list") (hd : o.data = .seq items.toArray k) (hin : (l, o) ∈ keep ∨ h₀.get? l = some o)
    (F : Fr h₀ env.locals s.heap m₀) (N : News h₀ env.locals s.heap (keep ++ foot)) (hoff : ∀ p ∈ keep, p.1 ∉ foot.map (·.1)) (h0 : J 0 m₀ foot)
    (turn : ∀ i v m₁ foot₁ I o h tk, items[i]? = some v → J i m₁ foot₁ → (∀ p ∈ (I, o) :: keep, p.1 ∉ foot₁.map (·.1)) → (∀ p ∈ keep, p.1 ≠ I) → Fr h₀ env.locals h (fun y => if y = x then some v else m₁ y) → News h₀ env.locals h ((I, o) :: (keep ++ foot₁)) →
      wpAny (model prog w) A (execs body env) (TurnQ h₀ env.locals ((I, o) :: keep) (J (i + 1)) { s with heap := h, toks := tk } Q) E { s with heap := h, toks := tk })
    (done : ∀ m₁ foot₁ h tk, J items.length m₁ foot₁ → (∀ p ∈ keep, p.1 ∉ foot₁.map (·.1)) → Fr h₀ env.locals h m₁ → News h₀ env.locals h (keep ++ foot₁) → Q .next { s with heap := h, toks := tk }) :
    wpAny (model prog w) A (pyIter (.ref l)) (fun it s₂ => LoopAtV prog w A h₀ env x body Q E it s₂) E s := by
  have hls : s.heap.IsList l items.toArray := ⟨o, ho, hc, k, hd⟩
  have hlt : l < s.heap.objs.size := Heap.lt_size ho
  refine wpAny_pyIter_list hls ?_
  have W := Walks.list (prog := prog) (w := w) hh s.heap.objs.size l (Nat.ne_of_lt hlt) items.toArray
  have e : items.toArray.size = items.length := by simp
  rw [e] at W
  refine loop_led J W (fun i h st => let ⟨o, q, _⟩ := st.1; ⟨o, q⟩) ?_ rfl (next_is_new F) ?_ (F.push _) (fun p hp => ⟨Heap.get?_push_of_some _ (N p hp).1, (N p hp).2⟩) ?_ ?_ hoff ⟨⟨_, Heap.get?_push_size _ rfl, rfl, rfl⟩, hls.at fun o e => Heap.get?_push_of_some _ e⟩ h0 ?_ done
  · intro b hb
    rcases List.mem_cons.mp hb with h | h
    · exact .inl h
    · rw [List.mem_singleton.mp h]
      exact hin.elim (fun q => .inr (.inl ⟨o, q⟩)) fun q => .inr (.inr ⟨o, q⟩)
  · intro hm
    rcases List.mem_cons.mp hm with e | hm
    · exact absurd F.ns.lt (e ▸ Nat.lt_irrefl _)
    · exact seq_ne_locals F ho hd (List.mem_singleton.mp hm).symm
  · exact fun p hp e => absurd (Heap.lt_size (N p (List.mem_append_left _ hp)).1) (e ▸ Nat.lt_irrefl _)
  · exact fun p hp e => absurd (Heap.lt_size (N p (List.mem_append_right _ hp)).1) (e ▸ Nat.lt_irrefl _)
  · intro i v m₁ foot₁ o' h tk hi hP hJ ho' hk' F₁ N₁
    exact turn i v m₁ foot₁ _ o' h tk (by simpa using hP) hJ ho' hk' F₁ N₁

theorem iter_tuple {l : Addr} {o : Obj} {items : List Value} {k : Nat} {m₀ : Str → Option Value} {keep foot : List (Addr × Obj)} (J : Nat → (Str → Option Value) → List (Addr × Obj) → Prop) (hh : A.handled = none)
    (ho : s.heap.get? l = some o) (hc : o.cls = .type "tuple") (hd : o.data = .seq items.toArray k) (hin : (l, o) ∈ keep ∨ h₀.get? l = some o)
    (F : Fr h₀ env.locals s.heap m₀) (N : News h₀ env.locals s.heap (keep ++ foot)) (hoff : ∀ p ∈ keep, p.1 ∉ foot.map (·.1)) (h0 : J 0 m₀ foot)
    (turn : ∀ i v m₁ foot₁ I o h tk, items[i]? = some v → J i m₁ foot₁ → (∀ p ∈ (I, o) :: keep, p.1 ∉ foot₁.map (·.1)) → (∀ p ∈ keep, p.1 ≠ I) → Fr h₀ env.locals h (fun y => if y = x then some v else m₁ y) → News h₀ env.locals h ((I, o) :: (keep ++ foot₁)) →
      wpAny (model prog w) A (execs body env) (TurnQ h₀ env.locals ((I, o) :: keep) (J (i + 1)) { s with heap := h, toks := tk } Q) E { s with heap := h, toks := tk })
    (done : ∀ m₁ foot₁ h tk, J items.length m₁ foot₁ → (∀ p ∈ keep, p.1 ∉ foot₁.map (·.1)) → Fr h₀ env.locals h m₁ → News h₀ env.locals h (keep ++ foot₁) → Q .next { s with heap := h, toks := tk }) :
    wpAny (model prog w) A (pyIter (.ref l)) (fun it s₂ => LoopAtV prog w A h₀ env x body Q E it s₂) E s := by
  have hls : s.heap.IsTuple l items.toArray := ⟨o, ho, hc, k, hd⟩
  have hlt : l < s.heap.objs.size := Heap.lt_size ho
  refine wpAny_pyIter_tuple hls ?_
  have W := Walks.tuple (prog := prog) (w := w) hh s.heap.objs.size l (Nat.ne_of_lt hlt) items.toArray
  have e : items.toArray.size = items.length := by simp
  rw [e] at W
  refine loop_led J W (fun i h st => let ⟨o, q, _⟩ := st.1; ⟨o, q⟩) ?_ rfl (next_is_new F) ?_ (F.push _) (fun p hp => ⟨Heap.get?_push_of_some _ (N p hp).1, (N p hp).2⟩) ?_ ?_ hoff ⟨⟨_, Heap.get?_push_size _ rfl, rfl, rfl⟩, hls.push _⟩ h0 ?_ done
  · intro b hb
    rcases List.mem_cons.mp hb with h | h
    · exact .inl h
    · rw [List.mem_singleton.mp h]
      exact hin.elim (fun q => .inr (.inl ⟨o, q⟩)) fun q => .inr (.inr ⟨o, q⟩)
  · intro hm
    rcases List.mem_cons.mp hm with e | hm
    · exact absurd F.ns.lt (e ▸ Nat.lt_irrefl _)
    · exact seq_ne_locals F ho hd (List.mem_singleton.mp hm).symm
  · exact fun p hp e => absurd (Heap.lt_size (N p (List.mem_append_left _ hp)).1) (e ▸ Nat.lt_irrefl _)
  · exact fun p hp e => absurd (Heap.lt_size (N p (List.mem_append_right _ hp)).1) (e ▸ Nat.lt_irrefl _)
  · intro i v m₁ foot₁ o' h tk hi hP hJ ho' hk' F₁ N₁
    exact turn i v m₁ foot₁ _ o' h tk (by simpa using hP) hJ ho' hk' F₁ N₁

theorem iter_range {r : Addr} {a₀ b₀ : Int} {t₀ u₀ v₀ : Tok} {n : Nat} {m₀ : Str → Option Value} {keep foot : List (Addr × Obj)} (J : Nat → (Str → Option Value) → List (Addr × Obj) → Prop) (hh : A.handled = none)
    (hr : IsRange s.heap r a₀ b₀ 1 t₀ u₀ v₀) (hsmall : Builtin.Range.small a₀ b₀ 1 = true) (hn : Builtin.Range.rangeSize a₀ b₀ 1 = (n : Int))
    (F : Fr h₀ env.locals s.heap m₀) (N : News h₀ env.locals s.heap (keep ++ foot)) (hoff : ∀ p ∈ keep, p.1 ∉ foot.map (·.1)) (h0 : J 0 m₀ foot)
    (turn : ∀ i t m₁ foot₁ I o h tk, i < n → J i m₁ foot₁ → (∀ p ∈ (I, o) :: keep, p.1 ∉ foot₁.map (·.1)) → (∀ p ∈ keep, p.1 ≠ I) → Fr h₀ env.locals h (fun y => if y = x then some (.int (a₀ + (i : Nat)) t) else m₁ y) → News h₀ env.locals h ((I, o) :: (keep ++ foot₁)) →
      wpAny (model prog w) A (execs body env) (TurnQ h₀ env.locals ((I, o) :: keep) (J (i + 1)) { s with heap := h, toks := tk } Q) E { s with heap := h, toks := tk })
    (done : ∀ m₁ foot₁ h tk, J n m₁ foot₁ → (∀ p ∈ keep, p.1 ∉ foot₁.map (·.1)) → Fr h₀ env.locals h m₁ → News h₀ env.locals h (keep ++ foot₁) → Q .next { s with heap := h, toks := tk }) :
    wpAny (model prog w) A (pyIter (.ref r)) (fun it s₂ => LoopAtV prog w A h₀ env x body Q E it s₂) E s := by
  refine wpAny_pyIter_range hr hsmall ?_
  have W := Walks.range (prog := prog) (w := w) hh s.heap.objs.size a₀ 1 n
  refine loop_led J W (fun i h st => ⟨_, st⟩) ?_ rfl (next_is_new F) ?_ (F.push _) (fun p hp => ⟨Heap.get?_push_of_some _ (N p hp).1, (N p hp).2⟩) ?_ ?_ hoff (by show IsRangeIter _ _ _ _ _; rw [hn]; simpa using Heap.get?_push_size _ rfl) h0 ?_ done
  · intro b hb
    exact .inl (List.mem_singleton.mp hb)
  · intro hm
    exact absurd F.ns.lt ((List.mem_singleton.mp hm) ▸ Nat.lt_irrefl _)
  · exact fun p hp e => absurd (Heap.lt_size (N p (List.mem_append_left _ hp)).1) (e ▸ Nat.lt_irrefl _)
  · exact fun p hp e => absurd (Heap.lt_size (N p (List.mem_append_right _ hp)).1) (e ▸ Nat.lt_irrefl _)
  · rintro i v m₁ foot₁ o' h tk hi ⟨t, rfl⟩ hJ ho' hk' F₁ N₁
    rw [Int.mul_one] at F₁
    exact turn i t m₁ foot₁ _ o' h tk hi hJ ho' hk' F₁ N₁
theorem iter_listS {l : Addr} {ol : Obj} {items : List Value} {k : Nat} {m₀ : Str → Option Value} {keep foot : List (Addr × Obj)} (stored : List Str) (J : Nat → List (Addr × Obj) → Prop) (hh : A.handled = none)
    (ho : s.heap.get? l = some ol) (hc : ol.cls = .type "list") (hd : ol.data = .seq items.toArray k) (hin : (l, ol) ∈ keep ∨ h₀.get? l = some ol)
    (F : Fr h₀ env.locals s.heap m₀) (N : News h₀ env.locals s.heap (keep ++ foot)) (hoff : ∀ p ∈ keep, p.1 ∉ foot.map (·.1)) (h0 : J 0 foot)
    (turn : ∀ i v (u : Str → Option Value) foot₁ I o h tk, items[i]? = some v → J i foot₁ → (∀ p ∈ (I, o) :: keep, p.1 ∉ foot₁.map (·.1)) → (∀ p ∈ keep, p.1 ≠ I) → Fr h₀ env.locals h (fun y => if y = x then some v else if stored.contains y then u y else m₀ y) → News h₀ env.locals h ((I, o) :: (keep ++ foot₁)) →
      wpAny (model prog w) A (execs body env) (TurnQ h₀ env.locals ((I, o) :: keep) (fun m' foot' => (∀ y, y ≠ x → stored.contains y = false → m' y = m₀ y) ∧ J (i + 1) foot') { s with heap := h, toks := tk } Q) E { s with heap := h, toks := tk })
    (done : ∀ (u : Str → Option Value) foot₁ h tk, J items.length foot₁ → (∀ p ∈ keep, p.1 ∉ foot₁.map (·.1)) → Fr h₀ env.locals h (fun y => if y = x then u y else if stored.contains y then u y else m₀ y) → News h₀ env.locals h (keep ++ foot₁) → Q .next { s with heap := h, toks := tk }) :
    wpAny (model prog w) A (pyIter (.ref l)) (fun it s₂ => LoopAtV prog w A h₀ env x body Q E it s₂) E s := by
  refine iter_list (fun i m foot => (∀ y, y ≠ x → stored.contains y = false → m y = m₀ y) ∧ J i foot) hh ho hc hd hin F N hoff ⟨fun _ _ _ => rfl, h0⟩ ?_ ?_
  · rintro i v m₁ foot₁ I o h tk hi ⟨hm, hJ⟩ ho hk F₁ N₁
    have e : (fun y => if y = x then some v else m₁ y) = fun y => if y = x then some v else if stored.contains y then m₁ y else m₀ y := by
      funext y
      by_cases h1 : y = x
      · simp [h1]
      · simp only [if_neg h1]
        cases h2 : stored.contains y with
        | true => simp
        | false => simpa using hm y h1 h2
    rw [e] at F₁
    exact turn i v m₁ foot₁ I o h tk hi hJ ho hk F₁ N₁
  · rintro m₁ foot₁ h tk ⟨hm, hJ⟩ ho F₁ N₁
    have e : m₁ = fun y => if y = x then m₁ y else if stored.contains y then m₁ y else m₀ y := by
      funext y
      by_cases h1 : y = x
      · simp [h1]
      · simp only [if_neg h1]
        cases h2 : stored.contains y with
        | true => simp
        | false => simpa using hm y h1 h2
    rw [e] at F₁
    exact done m₁ foot₁ h tk hJ ho F₁ N₁

theorem iter_tupleS {l : Addr} {ol : Obj} {items : List Value} {k : Nat} {m₀ : Str → Option Value} {keep foot : List (Addr × Obj)} (stored : List Str) (J : Nat → List (Addr × Obj) → Prop) (hh : A.handled = none)
    (ho : s.heap.get? l = some ol) (hc : ol.cls = .type "tuple") (hd : ol.data = .seq items.toArray k) (hin : (l, ol) ∈ keep ∨ h₀.get? l = some ol)
    (F : Fr h₀ env.locals s.heap m₀) (N : News h₀ env.locals s.heap (keep ++ foot)) (hoff : ∀ p ∈ keep, p.1 ∉ foot.map (·.1)) (h0 : J 0 foot)
    (turn : ∀ i v (u : Str → Option Value) foot₁ I o h tk, items[i]? = some v → J i foot₁ → (∀ p ∈ (I, o) :: keep, p.1 ∉ foot₁.map (·.1)) → (∀ p ∈ keep, p.1 ≠ I) → Fr h₀ env.locals h (fun y => if y = x then some v else if stored.contains y then u y else m₀ y) → News h₀ env.locals h ((I, o) :: (keep ++ foot₁)) →
      wpAny (model prog w) A (execs body env) (TurnQ h₀ env.locals ((I, o) :: keep) (fun m' foot' => (∀ y, y ≠ x → stored.contains y = false → m' y = m₀ y) ∧ J (i + 1) foot') { s with heap := h, toks := tk } Q) E { s with heap := h, toks := tk })
    (done : ∀ (u : Str → Option Value) foot₁ h tk, J items.length foot₁ → (∀ p ∈ keep, p.1 ∉ foot₁.map (·.1)) → Fr h₀ env.locals h (fun y => if y = x then u y else if stored.contains y then u y else m₀ y) → News h₀ env.locals h (keep ++ foot₁) → Q .next { s with heap := h, toks := tk }) :
    wpAny (model prog w) A (pyIter (.ref l)) (fun it s₂ => LoopAtV prog w A h₀ env x body Q E it s₂) E s := by
  refine iter_tuple (fun i m foot => (∀ y, y ≠ x → stored.contains y = false → m y = m₀ y) ∧ J i foot) hh ho hc hd hin F N hoff ⟨fun _ _ _ => rfl, h0⟩ ?_ ?_
  · rintro i v m₁ foot₁ I o h tk hi ⟨hm, hJ⟩ ho hk F₁ N₁
    have e : (fun y => if y = x then some v else m₁ y) = fun y => if y = x then some v else if stored.contains y then m₁ y else m₀ y := by
      funext y
      by_cases h1 : y = x
      · simp [h1]
      · simp only [if_neg h1]
        cases h2 : stored.contains y with
        | true => simp
        | false => simpa using hm y h1 h2
    rw [e] at F₁
    exact turn i v m₁ foot₁ I o h tk hi hJ ho hk F₁ N₁
  · rintro m₁ foot₁ h tk ⟨hm, hJ⟩ ho F₁ N₁
    have e : m₁ = fun y => if y = x then m₁ y else if stored.contains y then m₁ y else m₀ y := by
      funext y
      by_cases h1 : y = x
      · simp [h1]
      · simp only [if_neg h1]
        cases h2 : stored.contains y with
        | true => simp
        | false => simpa using hm y h1 h2
    rw [e] at F₁
    exact done m₁ foot₁ h tk hJ ho F₁ N₁

theorem iter_rangeS {r : Addr} {a₀ b₀ : Int} {t₀ u₀ v₀ : Tok} {n : Nat} {m₀ : Str → Option Value} {keep foot : List (Addr × Obj)} (stored : List Str) (J : Nat → List (Addr × Obj) → Prop) (hh : A.handled = none)
    (hr : IsRange s.heap r a₀ b₀ 1 t₀ u₀ v₀) (hsmall : Builtin.Range.small a₀ b₀ 1 = true) (hn : Builtin.Range.rangeSize a₀ b₀ 1 = (n : Int))
    (F : Fr h₀ env.locals s.heap m₀) (N : News h₀ env.locals s.heap (keep ++ foot)) (hoff : ∀ p ∈ keep, p.1 ∉ foot.map (·.1)) (h0 : J 0 foot)
    (turn : ∀ i t (u : Str → Option Value) foot₁ I o h tk, i < n → J i foot₁ → (∀ p ∈ (I, o) :: keep, p.1 ∉ foot₁.map (·.1)) → (∀ p ∈ keep, p.1 ≠ I) → Fr h₀ env.locals h (fun y => if y = x then some (Value.int (a₀ + (i : Nat)) t) else if stored.contains y then u y else m₀ y) → News h₀ env.locals h ((I, o) :: (keep ++ foot₁)) →
      wpAny (model prog w) A (execs body env) (TurnQ h₀ env.locals ((I, o) :: keep) (fun m' foot' => (∀ y, y ≠ x → stored.contains y = false → m' y = m₀ y) ∧ J (i + 1) foot') { s with heap := h, toks := tk } Q) E { s with heap := h, toks := tk })
    (done : ∀ (u : Str → Option Value) foot₁ h tk, J n foot₁ → (∀ p ∈ keep, p.1 ∉ foot₁.map (·.1)) → Fr h₀ env.locals h (fun y => if y = x then u y else if stored.contains y then u y else m₀ y) → News h₀ env.locals h (keep ++ foot₁) → Q .next { s with heap := h, toks := tk }) :
    wpAny (model prog w) A (pyIter (.ref r)) (fun it s₂ => LoopAtV prog w A h₀ env x body Q E it s₂) E s := by
  refine iter_range (fun i m foot => (∀ y, y ≠ x → stored.contains y = false → m y = m₀ y) ∧ J i foot) hh hr hsmall hn F N hoff ⟨fun _ _ _ => rfl, h0⟩ ?_ ?_
  · rintro i t m₁ foot₁ I o h tk hi ⟨hm, hJ⟩ ho hk F₁ N₁
    have e : (fun y => if y = x then some (Value.int (a₀ + (i : Nat)) t) else m₁ y) = fun y => if y = x then some (Value.int (a₀ + (i : Nat)) t) else if stored.contains y then m₁ y else m₀ y := by
      funext y
      by_cases h1 : y = x
      · simp [h1]
      · simp only [if_neg h1]
        cases h2 : stored.contains y with
        | true => simp
        | false => simpa using hm y h1 h2
    rw [e] at F₁
    exact turn i t m₁ foot₁ I o h tk hi hJ ho hk F₁ N₁
  · rintro m₁ foot₁ h tk ⟨hm, hJ⟩ ho F₁ N₁
    have e : m₁ = fun y => if y = x then m₁ y else if stored.contains y then m₁ y else m₀ y := by
      funext y
      by_cases h1 : y = x
      · simp [h1]
      · simp only [if_neg h1]
        cases h2 : stored.contains y with
        | true => simp
        | false => simpa using hm y h1 h2
    rw [e] at F₁
    exact done m₁ foot₁ h tk hJ ho F₁ N₁
end
local macro_rules | `(tactic| walk_at "exec For Name") => `(tactic| (k_here; (rename Fr _ _ _ _ => lF'); (with_unfolding_all refine' For_invVF lF' ?k1 ?k2 ?_; (case k1 => exact rfl); (case k2 => exact rfl); k_whole)))
local macro_rules | `(tactic| walk_at "TurnQ") => `(tactic| ((refine' turn_next ?kf ?kn ?ke ?_); (case kf => k_asm); (case kn => k_asm); (case ke => exact rfl)))

theorem wreset_D8 : True := by
  w_top off
  exact True.intro
section
variable {prog : Program} {w : World} {D U : Nat} {fn : Value} {vs : List Value} {full : List (Addr × Obj)} {Post : Value → List (Addr × Obj) → Prop} {A A₀ : Around} {env : Env} {outer : List Env} {base h₀ : Heap} {L : Addr} {m : Str → Option Value}
  {mean : ExcName → Option Value} {mg mb : Str → Option Value} {s : Shared} {Q E : Value → Shared → Prop}
theorem callOk_nil (C : CallOk prog w D U fn vs [] Post) (B : Below A₀ base outer h₀) (F : Fr h₀ L s.heap m) (X : (hd.heap_39 w.params).In h₀) (N : News h₀ L s.heap full) (T : Top hd.view_39 (looseW hd.view_39 []) mean mg mb h₀)
    (hA : A.frames = some (env :: outer)) (hf : env.frame = some L) (hke : env.scope.kind = .function) (hh : A.handled = none) (hd : A.depth ≤ D) (hu : A.units ≤ U)
    (k : ∀ r foot' h' tk', Fr h₀ L h' m → News h₀ L h' (foot' ++ full) → (∀ p ∈ full, p.1 ∉ foot'.map (·.1)) → Post r foot' → Q r { s with heap := h', toks := tk' }) : wpAny (model prog w) A (call fn vs) Q E s := by
  refine callOk_use C B F X N T (fun p hp => nomatch hp) hA hf hke hh hd hu fun r foot' h' tk' F' N' K' R' P => ?_
  refine k r foot' h' tk' F' (newsJoin N' (newsKept N K' fun p hp => by simp)) (fun p hp hq => ?_) P
  obtain ⟨q, hq, e⟩ := List.mem_map.mp hq
  rcases R' q hq with h1 | h1
  · simp at h1
  · have h2 := (N p hp).1
    rw [e] at h1; rw [h1] at h2; cases h2
end

def fixedAtoms : List Str := ["[]", ".", "{}", "-", "+", "*", "/", ",", "|", ";", "->", "\\+", ":-", "?-", "-->", "!", "true", "fail", "false", "call", "=", "^", "error", "", "end_of_file", "system", "$VAR", "catch", "throw"]
def fixedRows : List (Str × Int) := [(".", 2), (",", 2), (";", 2), ("->", 2), ("\\+", 1), (":-", 2), (":-", 1), ("?-", 1), ("-->", 2), ("{}", 1), ("=", 2), ("^", 2), ("-", 1), ("-", 2), ("+", 2), ("/", 2), ("error", 2), ("$VAR", 1), ("catch", 3), ("throw", 1), ("!", 0), ("true", 0), ("fail", 0), ("false", 0), ("call", 1), ("call", 2), ("call", 3), ("call", 4), ("call", 5), ("call", 6), ("call", 7), ("call", 8)]

inductive RowsAre (ex : List (Addr × Obj)) : List Value → List (Str × Int) → Prop
  | nil : RowsAre ex [] []
  | cons {a : Addr} {x : Str} {t u : Tok} {n : Int} {vs : List Value} {rows : List (Str × Int)} : (a, tupOf [.str x t, .int n u]) ∈ ex → RowsAre ex vs rows → RowsAre ex (.ref a :: vs) ((x, n) :: rows)

set_option maxHeartbeats 4000000 in
theorem fixed_atoms_ok {prog : Program} {w : World} : CallOk prog w 380 900 (.ref 53) [] [] (fun r foot' => ∃ a tvs, r = .ref a ∧ foot' = [(a, tupOf tvs)] ∧ TxtsAre tvs fixedAtoms) := by
  walk_at "CallOk"
  k_steps
  refine give_ ⟨_, _, rfl, rfl, ?_⟩ (fun _ h => h)
  unfold fixedAtoms
  repeat (first | exact TxtsAre.nil | refine TxtsAre.cons _ _ ?_)

set_option maxHeartbeats 4000000 in
theorem fixed_functors_ok {prog : Program} {w : World} : CallOk prog w 380 900 (.ref 60) [] [] (fun r foot' => ∃ a rs ex, r = .ref a ∧ foot' = (a, tupOf rs) :: ex ∧ RowsAre ex rs fixedRows ∧ (∀ p ∈ ex, p.2.cls = .type "tuple")) := by
  walk_at "CallOk"
  k_steps
  refine give_ ⟨_, _, _, rfl, rfl, ?_, ?_⟩ (fun _ h => h)
  · unfold fixedRows
    repeat (first | exact RowsAre.nil | refine RowsAre.cons (by k_mem) ?_)
  · repeat (first | exact List.forall_mem_nil _ | refine List.forall_mem_cons.mpr ⟨rfl, ?_⟩)

theorem wreset_D9 : True := by
  w_top off
  exact True.intro
theorem tupDict_nil {prog : Program} {w : World} {o : Obj} (h : o.IsDictOf (strKind prog w) []) : TupDictO prog w o [] := by
  obtain ⟨es, ep, h1, h2, _, h4, _⟩ := h
  refine ⟨es, ep, h1, h2, ?_, List.nodup_nil⟩
  generalize es.toList = l at h4
  cases h4; rfl
theorem symS_nil {prog : Program} {w : World} {b dx tx an fs fn : Addr} {h1 h2 h3 h4 : Int} {t1 t2 t3 t4 : Tok} {n n1 n2 : Nat} {oA oF : Obj}
    (l1 : @LT.lt Nat _ dx b) (l2 : @LT.lt Nat _ b tx) (l3 : @LT.lt Nat _ tx an) (l4 : @LT.lt Nat _ an fs) (l5 : @LT.lt Nat _ fs fn)
    (hA : oA.IsDictOf (strKind prog w) []) (hm1 : (an == sysModules) = false) (hF : oF.IsDictOf (strKind prog w) []) (hm2 : (fn == sysModules) = false) :
    SymS prog w b dx tx an fs fn [] [] [(b, instObj 147 dx), (dx, dictOf [⟨h1, .str "texts" t1, .ref tx⟩, ⟨h2, .str "atom_numbers" t2, .ref an⟩, ⟨h3, .str "functors" t3, .ref fs⟩, ⟨h4, .str "functor_numbers" t4, .ref fn⟩] n),
      (tx, listOf #[] n1), (an, oA), (fs, listOf #[] n2), (fn, oF)] :=
  symS_mk (tvs := []) (xs := []) l1 l2 l3 l4 l5 .nil List.nodup_nil hA ⟨rfl, fun i h => absurd h (Nat.not_lt_zero _)⟩ hm1 (tupDict_nil hF) ⟨rfl, fun i h => absurd h (Nat.not_lt_zero _)⟩ hm2 (fun x hx => nomatch hx) (fun p hp => nomatch hp)

theorem addAtom_take {l : List Str} (hn : l.Nodup) {i : Nat} {x : Str} (hx : l[i]? = some x) : addAtom (l.take i) x = l.take (i + 1) := by
  obtain ⟨hi, rfl⟩ := List.getElem?_eq_some_iff.mp hx
  have h : l[i] ∉ l.take i := by
    intro hm
    obtain ⟨j, hj, e⟩ := List.mem_iff_getElem.mp hm
    rw [List.getElem_take] at e
    rw [List.length_take] at hj
    have := (List.getElem_inj hn).mp e
    omega
  rw [addAtom, if_neg h, List.take_add_one, hx]; rfl
theorem addFun_take {l : List (List Int)} (hn : l.Nodup) {i : Nat} {x : List Int} (hx : l[i]? = some x) : addFun (l.take i) x = l.take (i + 1) := by
  obtain ⟨hi, rfl⟩ := List.getElem?_eq_some_iff.mp hx
  have h : l[i] ∉ l.take i := by
    intro hm
    obtain ⟨j, hj, e⟩ := List.mem_iff_getElem.mp hm
    rw [List.getElem_take] at e
    rw [List.length_take] at hj
    have := (List.getElem_inj hn).mp e
    omega
  rw [addFun, if_neg h, List.take_add_one, hx]; rfl
def fixedFuns : List (List Int) := fixedRows.map fun r => [((fixedAtoms.idxOf r.1 : Nat) : Int), r.2]
theorem fixedFuns_nodup : fixedFuns.Nodup := by decide +kernel
theorem fixedRows_in : ∀ r ∈ fixedRows, r.1 ∈ fixedAtoms := by decide +kernel
theorem idx_of {l : List Str} (hn : l.Nodup) {i : Nat} {x : Str} (hx : l[i]? = some x) : i = l.idxOf x := by
  obtain ⟨hi, rfl⟩ := List.getElem?_eq_some_iff.mp hx
  exact (hn.idxOf_getElem i hi).symm
theorem addAtom_mem {l : List Str} {x : Str} (h : x ∈ l) : addAtom l x = l := if_pos h
theorem RowsAre.inv {ex : List (Addr × Obj)} {vs : List Value} {rows : List (Str × Int)} (h : RowsAre ex vs rows) : ∀ {i : Nat} {v : Value}, vs[i]? = some v → ∃ a x t u n, v = .ref a ∧ (a, tupOf [.str x t, .int n u]) ∈ ex ∧ rows[i]? = some (x, n) := by
  induction h with
  | nil => intro i v e; simp at e
  | cons hm _ ih =>
    intro i v e
    cases i with
    | zero => simp at e; subst e; exact ⟨_, _, _, _, _, rfl, hm, rfl⟩
    | succ j => simpa using ih (by simpa using e)
theorem RowsAre.length {ex : List (Addr × Obj)} {vs : List Value} {rows : List (Str × Int)} (h : RowsAre ex vs rows) : vs.length = rows.length := by
  induction h with
  | nil => rfl
  | cons _ _ ih => simp [ih]
theorem offSym {full foot foot' : List (Addr × Obj)} (D : ∀ p ∈ full, p.1 ∉ foot'.map (·.1)) (hs : ∀ p ∈ foot, p ∈ full) : ∀ p ∈ foot', p.1 ∉ foot.map (·.1) := by
  intro p hp hq
  obtain ⟨q, hq, e⟩ := List.mem_map.mp hq
  exact D q (hs q hq) (by rw [e]; exact List.mem_map_of_mem hp)
theorem fixedAtoms_nodup : fixedAtoms.Nodup := by decide +kernel

theorem TxtsAre.inv {vs : List Value} {xs : List Str} (h : TxtsAre vs xs) : ∀ {i : Nat} {v : Value}, vs[i]? = some v → ∃ x t, v = .str x t ∧ xs[i]? = some x := by
  induction h with
  | nil => intro i v e; simp at e
  | cons y u _ ih =>
    intro i v e
    cases i with
    | zero => simp at e; subst e; exact ⟨y, u, rfl, rfl⟩
    | succ j => simpa using ih (by simpa using e)

theorem name_only {x : Str} {m₀ u : Str → Option Value} {v : Option Value} : (fun y => if y = x then v else if y = x then u y else m₀ y) = fun y => if y = x then (fun _ => v) y else m₀ y := by
  funext y
  by_cases h : y = x <;> simp [h]
theorem name_self {x : Str} {m₀ : Str → Option Value} : m₀ = fun y => if y = x then m₀ y else m₀ y := by
  funext y
  by_cases h : y = x <;> simp [h]

theorem init_led {h₀ h : Heap} {L : Addr} {t e1 e2 e3 e4 e5 e6 : Addr × Obj} (N : News h₀ L h [t, e6, e5, e4, e3, e1, e2]) : News h₀ L h ([t] ++ [e1, e2, e3, e4, e5, e6]) :=
  newsPart N fun p hp => by
    simp only [List.cons_append, List.nil_append, List.mem_cons] at hp ⊢
    rcases hp with h | h | h | h | h | h | h | h <;> simp [h]
theorem offOne {t : Addr × Obj} {full foot : List (Addr × Obj)} (D : ∀ p ∈ full, p.1 ∉ [t].map (·.1)) (hs : ∀ p ∈ foot, p ∈ full) : ∀ p ∈ [t], p.1 ∉ foot.map (·.1) := by
  intro p hp hq
  obtain ⟨q, hq, e⟩ := List.mem_map.mp hq
  rw [List.mem_singleton.mp hp] at e
  exact D q (hs q hq) (by simp [e])
theorem six_back {a b c d e f : Addr × Obj} : ∀ p ∈ [e, f, d, c, b, a], p ∈ [a, b, c, d, e, f] := by
  intro p hp
  simp only [List.mem_cons] at hp ⊢
  rcases hp with h | h | h | h | h | h | h <;> simp [h]
theorem giveT_ {full pre : List (Addr × Obj)} {P : List (Addr × Obj) → Prop} {l : List (Addr × Obj)} (h : P l) (hn : ∀ p ∈ pre, p.1 ∉ l.map (·.1)) (hs : ∀ p ∈ pre ++ l, p ∈ full) : GiveT full pre P := ⟨l, h, hn, hs⟩

set_option maxHeartbeats 4000000 in
theorem init_ok {prog : Program} {w : World} {b dx : Addr} (hlt : @LT.lt Nat _ dx b) : CodeOk prog w 370 800 (.ref 74) [.ref b] [(b, instObj 147 dx), (dx, dictOf [] 0)] (fun r foot' => r = .none ∧ ∃ tx an fs fn, SymS prog w b dx tx an fs fn fixedAtoms fixedFuns foot') := by
  walk_at "CodeOk"
  k_steps
  refine' Halt.mk (callOk_nil fixed_atoms_ok ?B ?F ?X ?N ?T rfl rfl rfl rfl ?hd ?hu ?_)
  case B => k_asm
  case F => k_asm
  case X => k_asm
  case N => k_asm
  case T => k_asm
  case hd => exact Nat.le_of_ble_eq_true rfl
  case hu => exact Nat.le_of_ble_eq_true rfl
  intro r foot' h' tk' F' N' D' P'
  obtain ⟨a, tvs, rfl, rfl, hT⟩ := P'
  simp only [List.cons_append, List.nil_append] at N'
  have N2 := init_led N'
  refine iter_tupleS (l := a) (ol := tupOf tvs) (items := tvs) (k := 0) [] (fun i foot => ∃ tx an fs fn, SymS prog w b dx tx an fs fn (fixedAtoms.take i) [] foot) rfl (N2 _ (.head _)).1 rfl rfl (.inl (.head _)) F' N2 (offOne D' six_back)
    ⟨_, _, _, _, symS_nil (by omega) (by omega) (by omega) (by omega) (by omega) (by assumption) (by assumption) (by assumption) (by assumption)⟩ ?_ ?_
  · intro i v u foot₁ I o h tk hi hJ ho hk F₁ N₁
    obtain ⟨tx, an, fs, fn, hS⟩ := hJ
    obtain ⟨x, t, rfl, hx⟩ := hT.inv hi
    have hl : (fixedAtoms.take i).length ≤ 1000 := Nat.le_trans (List.length_take_le' i fixedAtoms) (by decide)
    obtain ⟨h1', h2', h3', h4', t1', t2', t3', t4', n', rest', rfl⟩ := symOpen hS
    clear N2 N' F'
    simp only [List.cons_append, List.nil_append] at N₁
    k_steps
    refine giveT_ ⟨fun y h1 h2 => by simp only [h1, h2, if_false]; rfl, tx, an, fs, fn, ?_⟩ (by assumption) (fun _ h => h)
    rw [← addAtom_take fixedAtoms_nodup hx]
    assumption
  · intro u foot₁ h tk hJ ho F₁ N₁
    clear N2 N' F'
    simp only [List.cons_append, List.nil_append] at N₁
    k_steps
    refine' Halt.mk (callOk_nil fixed_functors_ok ?B ?F ?X ?N ?T rfl rfl rfl rfl ?hd ?hu ?_)
    case B => k_asm
    case F => k_asm
    case X => k_asm
    case N => k_asm
    case T => k_asm
    case hd => exact Nat.le_of_ble_eq_true rfl
    case hu => exact Nat.le_of_ble_eq_true rfl
    intro r foot' h' tk' F' N' D' P'
    obtain ⟨a2, rs, ex, rfl, rfl, hR, hC⟩ := P'
    obtain ⟨tx, an, fs, fn, hS⟩ := hJ
    have hlen : tvs.length = fixedAtoms.length := hT.length
    rw [hlen, List.take_length] at hS
    have N2 : News _ _ h' (((a2, tupOf rs) :: ex) ++ foot₁) := newsPart N' fun p hp => by
      rcases List.mem_append.mp hp with h | h
      · exact List.mem_append_left _ h
      · exact List.mem_append_right _ (.tail _ h)
    refine iter_tupleS (l := a2) (ol := tupOf rs) (items := rs) (k := 0) [] (fun i foot => SymS prog w b dx tx an fs fn fixedAtoms (fixedFuns.take i) foot) rfl (N2 _ (.head _)).1 rfl rfl (.inl (.head _)) F' N2 (offSym D' fun p hp => .tail _ hp) hS ?_ ?_
    · intro i v u foot₁ I o h tk hi hJ ho hk F₁ N₁
      obtain ⟨c, x, t, u', n, rfl, hc, hx⟩ := hR.inv hi
      obtain ⟨h1', h2', h3', h4', t1', t2', t3', t4', n', rest', rfl⟩ := symOpen hJ
      clear N2 N' F'
      have m1 : (c, tupOf [.str x t, .int n u']) ∈ (I, o) :: ((a2, tupOf rs) :: ex ++ ((b, instObj 147 dx) :: (dx, dictOf [⟨h1', .str "texts" t1', .ref tx⟩, ⟨h2', .str "atom_numbers" t2', .ref an⟩, ⟨h3', .str "functors" t3', .ref fs⟩, ⟨h4', .str "functor_numbers" t4', .ref fn⟩] n') :: rest')) := by simp [hc]
      have m2 : (b, instObj 147 dx) ∈ (I, o) :: ((a2, tupOf rs) :: ex ++ ((b, instObj 147 dx) :: (dx, dictOf [⟨h1', .str "texts" t1', .ref tx⟩, ⟨h2', .str "atom_numbers" t2', .ref an⟩, ⟨h3', .str "functors" t3', .ref fs⟩, ⟨h4', .str "functor_numbers" t4', .ref fn⟩] n') :: rest')) := by simp
      have m3 : (dx, dictOf [⟨h1', .str "texts" t1', .ref tx⟩, ⟨h2', .str "atom_numbers" t2', .ref an⟩, ⟨h3', .str "functors" t3', .ref fs⟩, ⟨h4', .str "functor_numbers" t4', .ref fn⟩] n') ∈ (I, o) :: ((a2, tupOf rs) :: ex ++ ((b, instObj 147 dx) :: (dx, dictOf [⟨h1', .str "texts" t1', .ref tx⟩, ⟨h2', .str "atom_numbers" t2', .ref an⟩, ⟨h3', .str "functors" t3', .ref fs⟩, ⟨h4', .str "functor_numbers" t4', .ref fn⟩] n') :: rest')) := by simp
      k_steps
      have hxm : x ∈ fixedAtoms := fixedRows_in _ (List.mem_of_getElem? hx)
      have hfl : (fixedFuns.take i).length ≤ 1000 := Nat.le_trans (List.length_take_le' i fixedFuns) (by decide)
      refine' Halt.mk (callOk_tail (func_ok hJ (by decide) hfl) ?B ?F ?X ?N ?T ?e ho rfl rfl rfl rfl ?hd ?hu ?_)
      case B => k_asm
      case F => k_asm
      case X => k_asm
      case N => k_asm
      case T => k_asm
      case e => rfl
      case hd => exact Nat.le_of_ble_eq_true rfl
      case hu => exact Nat.le_of_ble_eq_true rfl
      intro r foot' h' tk' F' N' D' P'
      obtain ⟨i', j', t', ⟨rfl, hi', hj'⟩, hS'⟩ := P'
      clear m1 m2 m3 F₁ N₁
      k_steps
      refine giveT_ ⟨fun y h1 h2 => by simp only [h1, h2, if_false]; rfl, ?_⟩ D' (fun _ h => h)
      rw [addAtom_mem hxm] at hi' hS'
      have hix := idx_of fixedAtoms_nodup hi'
      subst hix
      rw [addFun_take fixedFuns_nodup (by rw [fixedFuns, List.getElem?_map, hx]; rfl)] at hS'
      exact hS'
    · intro u foot₁ h tk hJ ho F₁ N₁
      clear N2 N' F'
      k_steps
      have hrl : rs.length = fixedFuns.length := by
        have : rs.length = fixedRows.length := hR.length
        rw [this]; rfl
      rw [hrl, List.take_length] at hJ
      exact give_ ⟨rfl, tx, an, fs, fn, hJ⟩ (fun _ h => List.mem_append_right _ h)

theorem wreset_D10 : True := by
  w_top off
  exact True.intro
set_option maxHeartbeats 4000000 in
theorem sym_new_ok {prog : Program} {w : World} : CallOk prog w 368 798 (.ref 147) [] [] (fun r foot' => ∃ b dx tx an fs fn, r = .ref b ∧ SymS prog w b dx tx an fs fn fixedAtoms fixedFuns foot') := by
  intro A env outer A₀ base h₀ L m mean mg mb s Q E hA hf hke hh hdd hu B F X N T k
  have Xs := X.keeps F.keep
  obtain ⟨hp, g, d, t, os⟩ := s
  have hm : makesIn (hd.heap_39 w.params) 147 = true := by k_is
  have hi : findIn (hd.heap_39 w.params) (.ref 147) "__init__" = some (some (.ref 74)) := by k_is
  have hfn : isFn (hd.heap_39 w.params) (.ref 74) = true := by k_is
  refine wpAny_call (make_core (makes_of Xs hm) (looks_findIn Xs hi) (fun self => bind_fn Xs self (beq_iff_eq.mp hfn)) (.inl rfl) ?_)
  have N1 := (News.nil (h₀ := h₀) (h := hp) (L := L)).push F emptyDict
  have N2 := N1.push (F.push _) (instObj 147 hp.objs.size)
  rw [Heap.size_push] at N2
  refine init_ok (Nat.lt_succ_self hp.objs.size) (A.under (.builtin "type.__call__" ⟨[.ref 147], []⟩)) env outer A₀ base h₀ L m mean mg mb ⟨(hp.push emptyDict).push (instObj 147 hp.objs.size), g, d, t, os⟩ _ hA hf hke hh ?_ ?_ B ((F.push _).push _) X N2 T ?_
  · show A.depth + 1 ≤ 370; omega
  · show A.units + 1 ≤ 800; omega
  intro r foot' h'' tk' F'' N'' K'' R'' P''
  obtain ⟨rfl, tx, an, fs, fn, hS⟩ := P''
  have kp : ∀ b o, hp.get? b = some o → ((hp.push emptyDict).push (instObj 147 hp.objs.size)).get? b = some o := fun b o e => Heap.get?_push_of_some _ (Heap.get?_push_of_some _ e)
  refine ⟨rfl, k (.ref (hp.objs.size + 1)) foot' h'' tk' F'' N'' (fun b o e _ => K'' b o (kp b o e) ?_) (fun p hq => .inr ?_) ⟨_, _, tx, an, fs, fn, rfl, hS⟩⟩
  · have hlt := Heap.lt_size e
    intro hm
    simp only [List.map_cons, List.map_nil, List.mem_cons, List.not_mem_nil, or_false] at hm
    rcases hm with h | h
    · rw [h] at hlt; exact absurd hlt (Nat.not_lt.mpr (Nat.le_succ _))
    · rw [h] at hlt; exact absurd hlt (Nat.lt_irrefl _)
  · rcases R'' p hq with h | h
    · simp only [List.map_cons, List.map_nil, List.mem_cons, List.not_mem_nil, or_false] at h
      rcases h with h | h
      · rw [h]; exact Heap.get?_none_of_le (Nat.le_succ _)
      · rw [h]; exact Heap.get?_none_of_le (Nat.le_refl _)
    · cases q : hp.get? p.1 with
      | none => rfl
      | some o => have := kp _ _ q; rw [h] at this; cases this

theorem wreset_D11 : True := by
  w_top off
  exact True.intro
/-- a part: a text, or a tuple that is left as it is -/
inductive PartsOk (cs : List (Addr × Obj)) : List Value → Prop
  | nil : PartsOk cs []
  | txt {x : Str} {t : Tok} {vs : List Value} : x.length ≤ 100 → PyData.strOk x = true → PartsOk cs vs → PartsOk cs (.str x t :: vs)
  | ref {a : Addr} {its : List Value} {d : Dat} {vs : List Value} : (a, tupOf its) ∈ cs → DatIn cs (.ref a) d → kqdOk 6 d = true → PartsOk cs vs → PartsOk cs (.ref a :: vs)
def txtsOf : List Value → List Str
  | [] => []
  | .str x _ :: r => x :: txtsOf r
  | _ :: r => txtsOf r
def addAll (l xs : List Str) : List Str := xs.foldl addAtom l

/-- what becomes of a part -/
def ArgOk (atoms : List Str) (nw : List (Addr × Obj)) : Value → Value → Prop
  | .str x _, av => ∃ aa i t u, av = .ref aa ∧ (aa, tupOf [.str "a" t, .int (i : Nat) u]) ∈ nw ∧ atoms[i]? = some x
  | pv, av => av = pv
inductive ArgsOk (atoms : List Str) (nw : List (Addr × Obj)) : List Value → List Value → Prop
  | nil : ArgsOk atoms nw [] []
  | snoc {ps as : List Value} {p a : Value} : ArgsOk atoms nw ps as → ArgOk atoms nw p a → ArgsOk atoms nw (ps ++ [p]) (as ++ [a])

theorem addAtom_len (l : List Str) (x : Str) : (addAtom l x).length ≤ l.length + 1 := by
  unfold addAtom; split <;> simp
theorem addAtom_get {l : List Str} {x y : Str} {i : Nat} (h : l[i]? = some y) : (addAtom l x)[i]? = some y := by
  unfold addAtom
  split
  · exact h
  · rw [List.getElem?_append_left (List.getElem?_eq_some_iff.mp h).1]; exact h
theorem addAll_len (xs : List Str) : ∀ l : List Str, (addAll l xs).length ≤ l.length + xs.length := by
  induction xs with
  | nil => intro l; exact Nat.le_refl _
  | cons x r ih => intro l; have h1 := ih (addAtom l x); have h2 := addAtom_len l x; simp only [addAll, List.foldl_cons, List.length_cons] at *; omega
theorem addAll_snoc (l xs : List Str) (x : Str) : addAll l (xs ++ [x]) = addAtom (addAll l xs) x := by simp [addAll]
theorem txtsOf_append (a b : List Value) : txtsOf (a ++ b) = txtsOf a ++ txtsOf b := by
  induction a with
  | nil => rfl
  | cons v r ih => cases v <;> simp [txtsOf, ih]
theorem txtsOf_len (a : List Value) : (txtsOf a).length ≤ a.length := by
  induction a with
  | nil => simp [txtsOf]
  | cons v r ih => cases v <;> simp [txtsOf] <;> omega

theorem ArgOk.mono {atoms atoms' : List Str} {nw nw' : List (Addr × Obj)} {p a : Value} (h : ArgOk atoms nw p a) (ha : ∀ (i : Nat) x, atoms[i]? = some x → atoms'[i]? = some x) (hn : ∀ q ∈ nw, q ∈ nw') : ArgOk atoms' nw' p a := by
  cases p with
  | str x t => obtain ⟨aa, i, t, u, h1, h2, h3⟩ := h; exact ⟨aa, i, t, u, h1, hn _ h2, ha _ _ h3⟩
  | _ => exact h
theorem ArgsOk.mono {atoms atoms' : List Str} {nw nw' : List (Addr × Obj)} {ps as : List Value} (h : ArgsOk atoms nw ps as) (ha : ∀ (i : Nat) x, atoms[i]? = some x → atoms'[i]? = some x) (hn : ∀ q ∈ nw, q ∈ nw') : ArgsOk atoms' nw' ps as := by
  induction h with
  | nil => exact .nil
  | snoc _ h ih => exact .snoc ih (h.mono ha hn)
theorem ArgsOk.length {atoms : List Str} {nw : List (Addr × Obj)} {ps as : List Value} (h : ArgsOk atoms nw ps as) : ps.length = as.length := by
  induction h with
  | nil => rfl
  | snoc _ _ ih => simp [ih]
theorem PartsOk.at {cs : List (Addr × Obj)} {vs : List Value} (h : PartsOk cs vs) : ∀ {i : Nat} {v : Value}, vs[i]? = some v → (∃ x t, v = .str x t ∧ x.length ≤ 100) ∨ ∃ a its, v = .ref a ∧ (a, tupOf its) ∈ cs := by
  induction h with
  | nil => intro i v e; simp at e
  | txt hx _ _ ih =>
    intro i v e
    cases i with
    | zero => simp at e; subst e; exact .inl ⟨_, _, rfl, hx⟩
    | succ j => exact ih (by simpa using e)
  | ref hx _ _ _ ih =>
    intro i v e
    cases i with
    | zero => simp at e; subst e; exact .inr ⟨_, _, rfl, hx⟩
    | succ j => exact ih (by simpa using e)

structure FormalOk (atoms : List Str) (funs : List (List Int)) (nw : List (Addr × Obj)) (r : Value) (called : Str) (pvs : List Value) : Prop where
  out : ∃ fa ta t u avs i j, r = .ref fa ∧ (fa, tupOf [.str "s" t, .int (j : Nat) u, .ref ta]) ∈ nw ∧ (ta, tupOf avs) ∈ nw ∧ ArgsOk atoms nw pvs avs ∧ atoms[i]? = some called ∧ funs[j]? = some [((i : Nat) : Int), ((pvs.length : Nat) : Int)]

theorem allLt_app {d : Addr} : ∀ {a b : List (Addr × Obj)}, AllLt d (a ++ b) → AllLt d a ∧ AllLt d b
  | [], _, h => ⟨trivial, h⟩
  | _ :: _, _, h => ⟨⟨h.1, (allLt_app h.2).1⟩, (allLt_app h.2).2⟩
theorem take_succ_of {α : Type} {l : List α} {i : Nat} {v : α} (h : l[i]? = some v) : l.take (i + 1) = l.take i ++ [v] := by rw [List.take_add_one, h]; rfl

theorem formal_txt {atoms : List Str} {nw : List (Addr × Obj)} {pvs avs : List Value} {i i' : Nat} {x : Str} {t t1 u : Tok} {D : Addr} (hA : ArgsOk (addAll atoms (txtsOf (pvs.take i))) nw (pvs.take i) avs) (hv : pvs[i]? = some (.str x t))
    (hi : (addAtom (addAll atoms (txtsOf (pvs.take i))) x)[i']? = some x) :
    addAll atoms (txtsOf (pvs.take (i + 1))) = addAtom (addAll atoms (txtsOf (pvs.take i))) x ∧
    ArgsOk (addAll atoms (txtsOf (pvs.take (i + 1)))) ((D, tupOf [.str "a" t1, .int (i' : Nat) u]) :: nw) (pvs.take (i + 1)) (avs ++ [Value.ref D]) := by
  rw [take_succ_of hv, txtsOf_append]
  have e : addAll atoms (txtsOf (pvs.take i) ++ txtsOf [Value.str x t]) = addAtom (addAll atoms (txtsOf (pvs.take i))) x := addAll_snoc _ _ _
  rw [e]
  exact ⟨rfl, .snoc (hA.mono (fun _ _ h => addAtom_get h) fun _ h => .tail _ h) ⟨D, i', t1, u, rfl, .head _, hi⟩⟩
theorem formal_ref {atoms : List Str} {nw : List (Addr × Obj)} {pvs avs : List Value} {i : Nat} {a : Addr} (hA : ArgsOk (addAll atoms (txtsOf (pvs.take i))) nw (pvs.take i) avs) (hv : pvs[i]? = some (.ref a)) :
    addAll atoms (txtsOf (pvs.take (i + 1))) = addAll atoms (txtsOf (pvs.take i)) ∧ ArgsOk (addAll atoms (txtsOf (pvs.take (i + 1)))) nw (pvs.take (i + 1)) (avs ++ [Value.ref a]) := by
  rw [take_succ_of hv, txtsOf_append]
  have e : txtsOf (pvs.take i) ++ txtsOf [Value.ref a] = txtsOf (pvs.take i) := by simp [txtsOf]
  rw [e]
  exact ⟨rfl, .snoc hA rfl⟩

def FormalJ (prog : Program) (w : World) (b dx tx an fs fn al : Addr) (atoms : List Str) (funs : List (List Int)) (pvs : List Value) (i : Nat) (F : List (Addr × Obj)) : Prop :=
  ∃ (avs : List Value) (n : Nat) (nw symf : List (Addr × Obj)), F = (al, listOf (List.toArray avs) n) :: (nw ++ symf) ∧ ArgsOk (addAll atoms (txtsOf (pvs.take i))) nw (pvs.take i) avs ∧ (∀ p ∈ nw, p.2.cls = .type "tuple") ∧
      SymS prog w b dx tx an fs fn (addAll atoms (txtsOf (pvs.take i))) funs symf ∧ (∀ p ∈ nw, p.1 ∉ symf.map (·.1)) ∧ al ∉ symf.map (·.1)

theorem ne_of_ltN {a b : Addr} (h : @LT.lt Nat _ a b) : a ≠ b := fun e => Nat.lt_irrefl _ (e ▸ h)

theorem formal_turn1 {prog : Program} {w : World} {b dx tx an fs fn al I D : Addr} {o : Obj} {atoms : List Str} {funs : List (List Int)} {pvs avs : List Value} {n i i' : Nat} {x : Str} {t t1 u : Tok} {nw foot' : List (Addr × Obj)} {P : Prop}
    (hA : ArgsOk (addAll atoms (txtsOf (pvs.take i))) nw (pvs.take i) avs) (hv : pvs[i]? = some (.str x t)) (hi : (addAtom (addAll atoms (txtsOf (pvs.take i))) x)[i']? = some x) (hC : ∀ p ∈ nw, p.2.cls = .type "tuple")
    (hS : SymS prog w b dx tx an fs fn (addAtom (addAll atoms (txtsOf (pvs.take i))) x) funs foot') (hI : @LT.lt Nat _ I D) (hl : AllLt D (nw ++ foot')) (hIal : @Ne Nat I al) (hIn : I ∉ nw.map (·.1))
    (D' : ∀ p ∈ (I, o) :: (al, listOf avs.toArray n) :: nw, p.1 ∉ foot'.map (·.1)) (hP : P) :
    GiveT ((D, tupOf [.str "a" t1, .int (i' : Nat) u]) :: (I, o) :: (al, listOf (avs ++ [Value.ref D]).toArray (n + 1)) :: (nw ++ foot')) [(I, o)] (fun F => P ∧ FormalJ prog w b dx tx an fs fn al atoms funs pvs (i + 1) F) := by
  obtain ⟨e1, hA'⟩ := formal_txt (t1 := t1) (u := u) (D := D) hA hv hi
  refine giveT_ (l := (al, listOf (avs ++ [Value.ref D]).toArray (n + 1)) :: (((D, tupOf [.str "a" t1, .int (i' : Nat) u]) :: nw) ++ foot')) ⟨hP, avs ++ [Value.ref D], n + 1, (D, tupOf [.str "a" t1, .int (i' : Nat) u]) :: nw, foot', rfl, hA', ?_, ?_, ?_, ?_⟩ ?_ ?_
  · exact List.forall_mem_cons.mpr ⟨rfl, hC⟩
  · rw [e1]; exact hS
  · exact List.forall_mem_cons.mpr ⟨off_of_lt (allLt_app hl).2, fun p hp => D' p (.tail _ (.tail _ hp))⟩
  · exact D' _ (.tail _ (.head _))
  · intro p hp
    rw [List.mem_singleton.mp hp, List.map_cons, List.map_append, List.map_cons, List.cons_append, List.mem_cons, List.mem_cons, List.mem_append, not_or, not_or, not_or]
    exact ⟨hIal, ne_of_ltN hI, hIn, D' _ (.head _)⟩
  · intro p hp
    simp only [List.cons_append, List.nil_append, List.mem_cons, List.mem_append] at hp ⊢
    rcases hp with h | h | h | h | h <;> simp [h]
theorem formal_turn2 {prog : Program} {w : World} {b dx tx an fs fn al I a : Addr} {o : Obj} {atoms : List Str} {funs : List (List Int)} {pvs avs : List Value} {n i : Nat} {nw symf : List (Addr × Obj)} {P : Prop}
    (hA : ArgsOk (addAll atoms (txtsOf (pvs.take i))) nw (pvs.take i) avs) (hv : pvs[i]? = some (.ref a)) (hC : ∀ p ∈ nw, p.2.cls = .type "tuple")
    (hS : SymS prog w b dx tx an fs fn (addAll atoms (txtsOf (pvs.take i))) funs symf) (hIal : @Ne Nat I al) (hIn : I ∉ nw.map (·.1)) (hIs : I ∉ symf.map (·.1)) (hns : ∀ p ∈ nw, p.1 ∉ symf.map (·.1)) (hal : al ∉ symf.map (·.1)) (hP : P) :
    GiveT ((I, o) :: (al, listOf (avs ++ [Value.ref a]).toArray (n + 1)) :: (nw ++ symf)) [(I, o)] (fun F => P ∧ FormalJ prog w b dx tx an fs fn al atoms funs pvs (i + 1) F) := by
  obtain ⟨e1, hA'⟩ := formal_ref hA hv
  refine giveT_ (l := (al, listOf (avs ++ [Value.ref a]).toArray (n + 1)) :: (nw ++ symf)) ⟨hP, avs ++ [Value.ref a], n + 1, nw, symf, rfl, hA', hC, ?_, hns, hal⟩ ?_ (fun _ h => h)
  · rw [e1]; exact hS
  · intro p hp
    rw [List.mem_singleton.mp hp, List.map_cons, List.map_append, List.mem_cons, List.mem_append, not_or, not_or]
    exact ⟨hIal, hIn, hIs⟩
theorem formal_end {prog : Program} {w : World} {b dx tx an fs fn al f1 f2 : Addr} {atoms : List Str} {funs : List (List Int)} {pvs avs : List Value} {n i j : Nat} {t u : Tok} {nw symf : List (Addr × Obj)} {called : Str}
    (hA : ArgsOk (addAll atoms (txtsOf pvs)) nw pvs avs) (hC : ∀ p ∈ nw, p.1 ∉ symf.map (·.1)) (h1 : f1 ∉ symf.map (·.1)) (h2 : f2 ∉ symf.map (·.1)) (hi : (addAtom (addAll atoms (txtsOf pvs)) called)[i]? = some called)
    (hj : (addFun funs [((i : Nat) : Int), ((pvs.length : Nat) : Int)])[j]? = some [((i : Nat) : Int), ((pvs.length : Nat) : Int)])
    (hS : SymS prog w b dx tx an fs fn (addAtom (addAll atoms (txtsOf pvs)) called) (addFun funs [((i : Nat) : Int), ((pvs.length : Nat) : Int)]) symf) :
    Give ((f1, tupOf [.str "s" t, .int (j : Nat) u, .ref f2]) :: (f2, tupOf avs) :: (al, listOf avs.toArray n) :: (nw ++ symf)) (fun foot' => ∃ nw symf i, foot' = nw ++ symf ∧ FormalOk (addAtom (addAll atoms (txtsOf pvs)) called) (addFun funs [((i : Nat) : Int), ((pvs.length : Nat) : Int)]) nw (.ref f1) called pvs ∧ (addAtom (addAll atoms (txtsOf pvs)) called)[i]? = some called ∧
        (∀ p ∈ nw, p.1 ∉ symf.map (·.1)) ∧ SymS prog w b dx tx an fs fn (addAtom (addAll atoms (txtsOf pvs)) called) (addFun funs [((i : Nat) : Int), ((pvs.length : Nat) : Int)]) symf) := by
  refine give_ (l := ((f1, tupOf [.str "s" t, .int (j : Nat) u, .ref f2]) :: (f2, tupOf avs) :: nw) ++ symf) ⟨(f1, tupOf [.str "s" t, .int (j : Nat) u, .ref f2]) :: (f2, tupOf avs) :: nw, symf, i, rfl, ⟨f1, f2, t, u, avs, i, j, rfl, .head _, .tail _ (.head _), hA.mono (fun _ _ h => addAtom_get h) (fun _ h => .tail _ (.tail _ h)), hi, hj⟩, hi, ?_, hS⟩ ?_
  · exact List.forall_mem_cons.mpr ⟨h1, List.forall_mem_cons.mpr ⟨h2, hC⟩⟩
  · intro p hp
    simp only [List.cons_append, List.mem_cons, List.mem_append] at hp ⊢
    rcases hp with h | h | h | h <;> simp [h]

local macro_rules | `(tactic| walk_at "call type:tuple") => `(tactic| (k_here; (with_reducible show wpAny _ _ (call (Value.type _) [Value.ref _]) _ _ _); k_dflt (refine' kde_tupleOf ?k1 ?k2 ?k3 ?k4 ?k5 ?_; (case k1 => k_asm); (case k2 => k_asm); (case k3 => exact News.isList (by k_asm) (by k_mem)); (case k4 => ((rw [List.size_toArray]); omega)); (case k5 => exact rfl); k_whole); intro D' h' F' N' l1; have lq := Held.mk l1; (try k_lt l1); (try k_sweep)))
set_option maxHeartbeats 4000000 in
theorem formal_of_ok {prog : Program} {w : World} {b dx tx an fs fn pt : Addr} {atoms : List Str} {funs : List (List Int)} {foot cs : List (Addr × Obj)} {called : Str} {tc : Tok} {pvs : List Value} (hS : SymS prog w b dx tx an fs fn atoms funs foot)
    (hl1 : atoms.length + pvs.length ≤ 999) (hl2 : funs.length ≤ 999) (hp : PartsOk cs pvs) :
    CodeOkR prog w 370 800 (.ref 165) [.ref b, .str called tc, .ref pt] ((pt, tupOf pvs) :: cs) foot
      (fun r foot' => ∃ nw symf i, foot' = nw ++ symf ∧ FormalOk (addAtom (addAll atoms (txtsOf pvs)) called) (addFun funs [((i : Nat) : Int), ((pvs.length : Nat) : Int)]) nw r called pvs ∧ (addAtom (addAll atoms (txtsOf pvs)) called)[i]? = some called ∧
        (∀ p ∈ nw, p.1 ∉ symf.map (·.1)) ∧ SymS prog w b dx tx an fs fn (addAtom (addAll atoms (txtsOf pvs)) called) (addFun funs [((i : Nat) : Int), ((pvs.length : Nat) : Int)]) symf) := by
  walk_at "CodeOkR"
  k_steps
  (rename Fr _ _ _ _ => F0)
  (rename News _ _ _ _ => N0)
  rename_i al _ l1 _
  (rename (∀ p ∈ (pt, tupOf pvs) :: cs, Heap.get? _ p.1 = some p.2) => hro)
  have hb0 : ∀ p ∈ foot, p.1 ≠ al := fun p hp e => Nat.lt_irrefl _ (e ▸ l1 p hp)
  refine iter_tupleS (l := pt) (ol := tupOf pvs) (items := pvs) (k := 0) (keep := []) (foot := (al, listOf (List.toArray []) 0) :: ([] ++ foot)) []
    (FormalJ prog w b dx tx an fs fn al atoms funs pvs) rfl
    (F0.keep _ _ (hro _ (.head _))) rfl rfl (.inr (hro _ (.head _))) F0 (by simp only [List.nil_append]; exact N0) (fun p hp => nomatch hp) ⟨[], 0, [], foot, rfl, .nil, (fun p hp => nomatch hp), hS, (fun p hp => nomatch hp), fun hm => by obtain ⟨q, hq, e⟩ := List.mem_map.mp hm; exact hb0 q hq e⟩ ?_ ?_
  · intro i v u foot₁ I o h tk hi hJ ho hk F₁ N₁
    obtain ⟨avs, n, nw, symf, rfl, hA, hC, hS', hns, hal⟩ := hJ
    have hI := ho _ (.head _)
    rw [List.map_cons, List.map_append, List.mem_cons, List.mem_append, not_or, not_or] at hI
    have hIal : @Ne Nat I al := hI.1
    have hIn := hI.2.1
    have hIs := hI.2.2
    obtain ⟨h1', h2', h3', h4', t1', t2', t3', t4', n', rest', rfl⟩ := symOpen hS'
    simp only [List.nil_append] at N₁
    have hlen : (addAll atoms (txtsOf (pvs.take i))).length ≤ 1000 := by
      have h1 := addAll_len (txtsOf (pvs.take i)) atoms
      have h2 := txtsOf_len (pvs.take i)
      have h3 := List.length_take_le' i pvs
      omega
    have htl : avs.length ≤ 1000 := by
      have h1 := hA.length
      have h3 := List.length_take_le' i pvs
      omega
    clear N0 F0
    rcases hp.at hi with ⟨x, t, rfl, hxl⟩ | ⟨a, its, rfl, ha⟩
    · have m2 : (b, instObj 147 dx) ∈ (I, o) :: (al, listOf avs.toArray n) :: (nw ++ ((b, instObj 147 dx) :: (dx, dictOf [⟨h1', .str "texts" t1', .ref tx⟩, ⟨h2', .str "atom_numbers" t2', .ref an⟩, ⟨h3', .str "functors" t3', .ref fs⟩, ⟨h4', .str "functor_numbers" t4', .ref fn⟩] n') :: rest')) := by simp
      have m3 : (dx, dictOf [⟨h1', .str "texts" t1', .ref tx⟩, ⟨h2', .str "atom_numbers" t2', .ref an⟩, ⟨h3', .str "functors" t3', .ref fs⟩, ⟨h4', .str "functor_numbers" t4', .ref fn⟩] n') ∈ (I, o) :: (al, listOf avs.toArray n) :: (nw ++ ((b, instObj 147 dx) :: (dx, dictOf [⟨h1', .str "texts" t1', .ref tx⟩, ⟨h2', .str "atom_numbers" t2', .ref an⟩, ⟨h3', .str "functors" t3', .ref fs⟩, ⟨h4', .str "functor_numbers" t4', .ref fn⟩] n') :: rest')) := by simp
      k_steps
      refine' Halt.mk (callOk_tail (pre := (I, o) :: (al, listOf avs.toArray n) :: nw) (atom_ok hS' hlen) ?B ?F ?X ?N ?T ?e ?hn rfl rfl rfl rfl ?hd ?hu ?_)
      case B => k_asm
      case F => k_asm
      case X => k_asm
      case N => k_asm
      case T => k_asm
      case e => rfl
      case hn => exact List.forall_mem_cons.mpr ⟨hIs, List.forall_mem_cons.mpr ⟨hal, hns⟩⟩
      case hd => exact Nat.le_of_ble_eq_true rfl
      case hu => exact Nat.le_of_ble_eq_true rfl
      intro r foot' h' tk' F' N' D' P'
      obtain ⟨⟨i', t', rfl, hi'⟩, hS''⟩ := P'
      simp only [List.cons_append] at N'
      clear m2 m3 F₁ N₁
      have hnea : ∀ p ∈ nw, p.1 ≠ al := newsNe N' (oD := listOf avs.toArray n) (.tail _ (.head _)) (notTup (n := "list") (by decide)) (fun p hp => .tail _ (.tail _ (List.mem_append_left _ hp))) hC
      have hne : ∀ p ∈ nw ++ foot', p.1 ≠ al := fun p hp => by
        rcases List.mem_append.mp hp with h | h
        · exact hnea p h
        · exact fun e => D' _ (.tail _ (.head _)) (by show al ∈ foot'.map (·.1); rw [← e]; exact List.mem_map_of_mem h)
      k_steps
      (rename (_ ∧ _ ∧ AllLt _ (nw ++ foot')) => hl)
      obtain ⟨hl1, hl2, hl3⟩ := hl
      exact formal_turn1 hA hi hi' hC hS'' hl1 hl3 hIal hIn D' (fun y h1 h2 => by simp only [h1, h2, if_false]; rfl)
    · k_steps
      refine PySem.IsiPair.tuple_str (o := tupOf its) (F₁.keep _ _ (hro _ (.tail _ ha))) rfl ?_
      have hnea : ∀ p ∈ nw, p.1 ≠ al := newsNe N₁ (oD := listOf avs.toArray n) (.tail _ (.head _)) (notTup (n := "list") (by decide)) (fun p hp => .tail _ (.tail _ (List.mem_append_left _ hp))) hC
      have hne : ∀ p ∈ nw ++ ((b, instObj 147 dx) :: (dx, dictOf [⟨h1', .str "texts" t1', .ref tx⟩, ⟨h2', .str "atom_numbers" t2', .ref an⟩, ⟨h3', .str "functors" t3', .ref fs⟩, ⟨h4', .str "functor_numbers" t4', .ref fn⟩] n') :: rest'), p.1 ≠ al := fun p hp => by
        rcases List.mem_append.mp hp with h | h
        · exact hnea p h
        · exact fun e => hal (e ▸ List.mem_map_of_mem h)
      k_steps
      exact formal_turn2 hA hi hC hS' hIal hIn hIs hns hal (fun y h1 h2 => by simp only [h1, h2, if_false]; rfl)
  · intro u foot₁ h tk hJ ho F₁ N₁
    obtain ⟨avs, n, nw, symf, rfl, hA, hC, hS', hns, hal⟩ := hJ
    rw [List.take_length] at hA hS'
    have htl : avs.length = pvs.length := hA.length.symm
    obtain ⟨h1', h2', h3', h4', t1', t2', t3', t4', n', rest', rfl⟩ := symOpen hS'
    simp only [List.nil_append] at N₁
    clear N0 F0
    have m2 : (b, instObj 147 dx) ∈ (al, listOf avs.toArray n) :: (nw ++ ((b, instObj 147 dx) :: (dx, dictOf [⟨h1', .str "texts" t1', .ref tx⟩, ⟨h2', .str "atom_numbers" t2', .ref an⟩, ⟨h3', .str "functors" t3', .ref fs⟩, ⟨h4', .str "functor_numbers" t4', .ref fn⟩] n') :: rest')) := by simp
    have m3 : (dx, dictOf [⟨h1', .str "texts" t1', .ref tx⟩, ⟨h2', .str "atom_numbers" t2', .ref an⟩, ⟨h3', .str "functors" t3', .ref fs⟩, ⟨h4', .str "functor_numbers" t4', .ref fn⟩] n') ∈ (al, listOf avs.toArray n) :: (nw ++ ((b, instObj 147 dx) :: (dx, dictOf [⟨h1', .str "texts" t1', .ref tx⟩, ⟨h2', .str "atom_numbers" t2', .ref an⟩, ⟨h3', .str "functors" t3', .ref fs⟩, ⟨h4', .str "functor_numbers" t4', .ref fn⟩] n') :: rest')) := by simp
    k_steps
    have hlen : (addAll atoms (txtsOf pvs)).length ≤ 1000 := by
      have h1 := addAll_len (txtsOf pvs) atoms
      have h2 := txtsOf_len pvs
      omega
    refine' Halt.mk (callOk_tail (pre := (al, listOf avs.toArray n) :: nw) (func_ok hS' hlen (by omega)) ?B ?F ?X ?N ?T ?e ?hn rfl rfl rfl rfl ?hd ?hu ?_)
    case B => k_asm
    case F => k_asm
    case X => k_asm
    case N => k_asm
    case T => k_asm
    case e => rfl
    case hn => exact List.forall_mem_cons.mpr ⟨hal, hns⟩
    case hd => exact Nat.le_of_ble_eq_true rfl
    case hu => exact Nat.le_of_ble_eq_true rfl
    intro r foot' h' tk' F' N' D' P'
    obtain ⟨i', j', t', ⟨rfl, hi', hj'⟩, hS''⟩ := P'
    simp only [List.cons_append] at N'
    clear m2 m3 F₁ N₁
    k_steps
    rw [htl] at hj' hS''
    (rename (_ ∧ _ ∧ AllLt _ (nw ++ foot')) => hl)
    (rename Held _ => hl2)
    exact formal_end hA (fun p hp => D' p (.tail _ hp)) (off_of_lt (allLt_app hl.2.2).2) (off_of_all fun p hp => hl2.out p (.tail _ (List.mem_append_right _ hp))) hi' hj' hS''

theorem wreset_D12 : True := by
  w_top off
  exact True.intro
section
open PySem.Builtin PySem.Builtin.ObjectAttr
abbrev excObj (C t : Addr) (od : Option Addr) : Obj := { cls := .ref C, dict := od, data := .fields #[.ref t, .none, .none, .none, .bool false, .none] }
def excMro : List Value := [.ref 24, .type "Exception", .type "BaseException", .type "object"]

theorem set_exc {prog : Program} {w : World} {A : Around} {E : Value → Shared → Prop} {s : Shared} {h₀ : Heap} {L x t : Addr} {m : Str → Option Value} {news : List (Addr × Obj)} {name : Str} {v : Value} {Q : Unit → Shared → Prop} {cd : ClassData}
    (F : Fr h₀ L s.heap m) (N : News h₀ L s.heap ((x, excObj 44 t none) :: news)) (X : (hd.heap_39 w.params).In s.heap) (hne : ∀ p ∈ news, p.1 ≠ x)
    (hs : findIn (hd.heap_39 w.params) (.ref 44) "__setattr__" = some (some (.builtin "object.__setattr__"))) (hn : findIn (hd.heap_39 w.params) (.ref 44) name = some none)
    (hc : clsIn (hd.heap_39 w.params) 44 = some cd) (hm : cd.mro = .ref 44 :: excMro) (hh : cd.hasDict = true)
    (h : ∀ dx hsh h' tk', Fr h₀ L h' m → News h₀ L h' ((x, excObj 44 t (some dx)) :: (dx, dictOf [⟨hsh, .str name (s.toks + 1), v⟩] 1) :: news) → Q () { s with heap := h', toks := tk' }) :
    wpAny (model prog w) A (setAttr (.ref x) name v) Q E s := by
  have SF := PySem.F.store_object
  have SE := PySem.F.store_Exception
  have hx := (N _ (.head _)).1
  have I : InstAt s.heap x (excObj 44 t none) 44 none := ⟨hx, rfl, rfl, trivial⟩
  refine set_plain X I hs ?_
  have sub : Looks (model prog w) s.heap (isInstance (.ref x) (.type "object")) true := I.type.andThen (looks_mroIn X (by unfold mroIn; rw [hc, Option.bind_some, hm]; exact rfl))
  refine codeAny_call_builtin SF.slot.plain SF.entry (@check_slot (model prog w) _ _ { s with toks := s.toks + 1 } "object.__setattr__" "object" "__setattr__" (.ref x) [.str name s.toks, v] [] _ SF.kind SF.split sub (SF.args (.ref x) (.str name s.toks) v) ?_)
  have hm' : Looks (model prog w) s.heap (mroOf (.ref 44)) cd.mro := (looks_clsIn X hc).andThen .now
  rw [osa_eq, refuse_eq]
  obtain ⟨hp, g, d, tk, os⟩ := s
  refine wpAny_bind (wpAny_bind (I.type.at (wpAny_bind (hm'.at ?_))))
  rw [hm, excMro, refuseLoop_ref, refuseLoop_ref, SE.passes]
  refine wpAny_pure (wpAny_bind (I.type.at (wpAny_bind ((looks_findIn X hn).at (wpAny_bind ((Looks.now (M := model prog w) (h := hp) (a := (none : Option Value))).at ?_))))))
  dsimp only
  refine wpAny_bind (wpAny_pure (wpAny_bind (wpAny_bind (wpAny_loadPart hx (wpAny_bind ((looks_clsIn X hc).at ?_))))))
  rw [hh]
  refine wpAny_bind (wpAny_alloc' (wpAny_bind (wpAny_update' (Heap.get?_push_of_some _ hx) ?_)))
  refine wpAny_pure (a := some hp.objs.size) (wpAny_bind (wpAny_pure (wpAny_bind ?_)))
  have N1 := N.push F emptyDict
  have hlt : ∀ p ∈ (x, excObj 44 t none) :: news, p.1 ≠ hp.objs.size := fun p hp' => Nat.ne_of_lt (Heap.lt_size (N p hp').1)
  obtain ⟨F2, N2⟩ := news_upd (pre := [(hp.objs.size, emptyDict)]) (post := news) (o' := excObj 44 t (some hp.objs.size)) (f := fun o => { o with dict := some hp.objs.size }) (F.push emptyDict) N1 (fun p hp' => by rw [List.mem_singleton.mp hp']; exact (hlt _ (.head _)).symm) hne rfl rfl
  obtain ⟨F3, N3⟩ := news_upd (pre := []) (post := (x, excObj 44 t (some hp.objs.size)) :: news) (o' := dictOf [⟨PyData.keyHash w.params name, .str name (tk + 1), v⟩] 1) (f := Obj.putName name (PyData.keyHash w.params name) (.str name (tk + 1)) v) F2 N2 (fun p hp' => nomatch hp') (fun p hp' => by
      rcases List.mem_cons.mp hp' with rfl | q
      · exact hlt (x, excObj 44 t none) (.head _)
      · exact hlt p (.tail _ q)) rfl rfl
  have D := (N2 (hp.objs.size, emptyDict) (.head _)).1
  have D' := (N3 (hp.objs.size, dictOf [⟨PyData.keyHash w.params name, .str name (tk + 1), v⟩] 1) (.head _)).1
  unfold nsSet
  refine wpAny_bind (wpAny_bind (wpAny_askSetting (wpAny_pure (wpAny_bind (wpAny_mkText (wpAny_bind (wpAny_loadPart D ?_)))))))
  dsimp only
  rw [show aRefKeyMayBeTheName name #[] = false from rfl]
  refine wpAny_updatePart D ?_
  refine wpAny_bind (wpAny_lookBehind D' (pastItsLine_dict (by rw [List.size_toArray, sizeLine_eq, List.length_singleton]; omega)) ?_)
  refine wpAny_pure (h hp.objs.size (PyData.keyHash w.params name) _ (tk + 1 + 1) F3 (fun p hp' => N3 p ?_))
  rcases List.mem_cons.mp hp' with rfl | q
  · exact .tail _ (.head _)
  rcases List.mem_cons.mp q with rfl | q
  · exact .head _
  · exact .tail _ (.tail _ q)
set_option maxHeartbeats 4000000 in
theorem exc_init_ok {prog : Program} {w : World} {e t : Addr} {bv : Value} : CallOk prog w 380 900 (.ref 41) [.ref e, bv] [(e, excObj 44 t none)]
   (fun r foot' => r = .none ∧ ∃ dx hs tk, foot' = [(e, excObj 44 t (some dx)), (dx, dictOf [⟨hs, .str "ball" tk, bv⟩] 1)]) := by
  walk_at "CallOk"
  k_steps
  refine' set_exc ?F ?N ?X (List.forall_mem_nil _) ?hs ?hn ?hc ?hm ?hh ?_
  case F => k_asm
  case N => k_asm
  case X => k_in
  case hs => k_is
  case hn => k_is
  case hc => k_is
  case hm => exact rfl
  case hh => exact rfl
  intro dx hsh h' tk' F' N'
  k_steps
  exact give_ ⟨rfl, dx, hsh, _, rfl⟩ (fun _ h => h)

theorem clsExc (w : World) : (hd.heap_39 w.params).lookup 44 = some (excClassObj "PrologError" "PrologError" 44 43 [.ref 24] excMro true [] [] false none none (some (.ref 28)) none (some (.str "PrologError" 209)) (some (.str "PrologError" 217)) (some (.bool true)) "Exception.__new__") := by k_is

theorem tailExc {w : World} {h : Heap} (X : (hd.heap_39 w.params).In h) : OwnTail h [.type "Exception", .type "BaseException", .type "object"] excMro := by
  have h24 : ∃ cd sl dd, (hd.heap_39 w.params).lookup 24 = some { cls := .type "type", dict := dd, data := .cls cd, slots := sl } ∧ cd.ns = 23 := ⟨_, _, _, rfl, rfl⟩
  obtain ⟨cd, sl, dd, h1, h2⟩ := h24
  have h23 : ∃ a b c d e f v1 v2 v3 v4 v5 t1 t2 t3 t4 t5 n, (hd.heap_39 w.params).lookup 23 = some { cls := .type "dict", data := .dict #[⟨a, .str "__module__" t1, v1⟩, ⟨b, .str "__firstlineno__" t2, v2⟩, ⟨c, .str "__static_attributes__" t3, v3⟩, ⟨d, .str "__weakref__" t4, v4⟩, ⟨e, .str "__doc__" t5, v5⟩] n } ∧ f = 1 := ⟨_, _, _, _, _, 1, _, _, _, _, _, _, _, _, _, _, _, rfl, rfl⟩
  obtain ⟨a, b, c, d, e, f, v1, v2, v3, v4, v5, t1, t2, t3, t4, t5, n, h3, _⟩ := h23
  refine .own (X _ _ h1) (mA := fun name => nsFind _ name) ⟨_, _, _, by rw [h2]; exact X _ _ h3, rfl, ?_, fun _ => rfl⟩ rfl .base
  intro en hen
  simp only [List.mem_toArray, List.mem_cons, List.not_mem_nil, or_false] at hen
  rcases hen with rfl | rfl | rfl | rfl | rfl <;> exact ⟨_, _, rfl⟩

theorem exc_call {prog : Program} {w : World} {A : Around} {E : Value → Shared → Prop} {h : Heap} {g : Array GenState} {d : Drawn} {t : Nat} {os : OsState} {rest : List Value} {Q : Value → Shared → Prop} (X : (hd.heap_39 w.params).In h)
    (hi : findIn (hd.heap_39 w.params) (.ref 44) "__init__" = some (some (.ref 41))) (hf : isFn (hd.heap_39 w.params) (.ref 41) = true) (hrest : rest.length ≤ 100)
    (hq : wpAny (model prog w) (A.under (.builtin "type.__call__" ⟨.ref 44 :: rest, []⟩)) (call (.ref 41) (.ref (h.objs.size + 1) :: rest)) (fun r s' => r = .none ∧ Q (.ref (h.objs.size + 1)) s') E
      ⟨(h.push (tupOf rest)).push (excObj 44 h.objs.size none), g, d, t, os⟩) :
    wpAny (model prog w) A (call (.ref 44) rest) Q E ⟨h, g, d, t, os⟩ := by
  have f1 := tc_lookup
  have f2 := tc_bind (.ref 44)
  have hC := X _ _ (clsExc w)
  have T := tailExc X
  have F := PySem.F.excBase_Exception
  have hr : rest.length ≤ sizeLine := by rw [sizeLine_eq]; omega
  have hT : (⟨h, g, d, t, os⟩ : Shared).TypeIs (.ref 44) "type" := ⟨_, hC, rfl⟩
  refine wpAny_call (codeAny_of_tree ?_)
  show wpAny _ _ (callAny (.ref 44) _) _ _ _
  repeat (any_goals (first | assumption | with_reducible refine wpAny_loadPart_at hC ?_ | wp_step))
  refine ⟨rfl, ?_⟩
  refine codeAny_call_builtin_at (Code.quiet_builtin _ (by decide +kernel)) entry_typeCall (wpAny_check_type_call_sub hC ?_)
  repeat (first | with_reducible refine wpAny_loadPart_at hC ?_ | with_reducible refine wpAny_madeBy_exc hC ?_ | wp_step)
  refine codeAny_call_builtin_code (Code.quiet_builtin _ F.quiet) (wpAny_check_new_subT F T hC ?_)
  refine codeAny_exc_new_subT F T hC ?_ hr
  show wpAny _ _ _ _ _ _
  have kp : ∀ b o, h.get? b = some o → ((h.push (tupOf rest)).push (excObj 44 h.objs.size none)).get? b = some o := fun b o e => Heap.get?_push_of_some _ (Heap.get?_push_of_some _ e)
  have X1 := X.keeps kp
  have hC₁ := X1 _ _ (clsExc w)
  have hget : ((h.push (tupOf rest)).push (excObj 44 h.objs.size none)).get? (h.objs.size + 1) = some { cls := .ref 44, data := .fields #[.ref h.objs.size, .none, .none, .none, .bool false, .none] } := by heap_get
  have hcC : (Value.ref 44 :: excMro).contains (.ref 44) = true := by simp
  unfold isInstance
  repeat (first | with_reducible refine wpAny_loadPart_at hget ?_ | (with_reducible refine wpAny_isSubtype_exc hC₁ ?_; rw [hcC]) | wp_step)
  refine wpAny_isSubtype_exc hC₁ ?_
  rw [hcC]
  repeat wp_step
  show wpAny _ _ (typeLookup (.ref 44) _) _ _ _
  refine (looks_findIn X1 hi).at ?_
  refine wpAny_holding (wpAny_bind ?_)
  refine (bind_fn X1 (.ref (h.objs.size + 1)) (beq_iff_eq.mp hf)).at ?_
  refine wpAny_bind (wpAny_mono hq (fun r s' hr => ?_) fun _ _ x => x)
  obtain ⟨rfl, hQ⟩ := hr
  wp_walk
  exact hQ

end
theorem wreset_D13 : True := by
  w_top off
  exact True.intro
set_option maxHeartbeats 4000000 in
theorem pe_ok {prog : Program} {w : World} {bv : Value} : CallOk prog w 378 898 (.ref 44) [bv] [] (fun r foot' => ∃ e dx t hs tk, r = .ref e ∧ foot' = [(e, excObj 44 t (some dx)), (dx, dictOf [⟨hs, .str "ball" tk, bv⟩] 1), (t, tupOf [bv])]) := by
  intro A env outer A₀ base h₀ L m mean mg mb s Q E hA hf hke hh hdd hu B F X N T k
  have Xs := X.keeps F.keep
  obtain ⟨hp, g, d, t, os⟩ := s
  have hi : findIn (hd.heap_39 w.params) (.ref 44) "__init__" = some (some (.ref 41)) := by k_is
  have hfn : isFn (hd.heap_39 w.params) (.ref 41) = true := by k_is
  refine exc_call Xs hi hfn (Nat.le_of_ble_eq_true rfl) ?_
  have N1 := (News.nil (h₀ := h₀) (h := hp) (L := L)).push F (tupOf [bv])
  have N2 := N1.push (F.push _) (excObj 44 hp.objs.size none)
  rw [Heap.size_push] at N2
  refine exc_init_ok (bv := bv) (e := hp.objs.size + 1) (t := hp.objs.size) (A.under (.builtin "type.__call__" ⟨[.ref 44, bv], []⟩)) env outer A₀ base h₀ L m mean mg mb ⟨(hp.push (tupOf [bv])).push (excObj 44 hp.objs.size none), g, d, t, os⟩ _ E hA hf hke hh ?_ ?_ B ((F.push _).push _) X (newsPart N2 (fun p hp => by rw [List.mem_singleton.mp hp]; exact .head _)) T ?_
  · show A.depth + 1 ≤ 380; omega
  · show A.units + 1 ≤ 900; omega
  intro r foot' h'' tk' F'' N'' K'' R'' P''
  obtain ⟨rfl, dx, hs, tk, rfl⟩ := P''
  have kp : ∀ b o, hp.get? b = some o → ((hp.push (tupOf [bv])).push (excObj 44 hp.objs.size none)).get? b = some o := fun b o e => Heap.get?_push_of_some _ (Heap.get?_push_of_some _ e)
  have ht : ((hp.push (tupOf [bv])).push (excObj 44 hp.objs.size none)).get? hp.objs.size = some (tupOf [bv]) := (N2 _ (.tail _ (.head _))).1
  have hnt : hp.objs.size ∉ [(hp.objs.size + 1, excObj 44 hp.objs.size none)].map (·.1) := by
    intro hm
    rw [List.map_cons, List.map_nil, List.mem_singleton] at hm
    exact absurd hm (Nat.ne_of_lt (Nat.lt_succ_self _))
  have N3 : News h₀ L h'' [(hp.objs.size, tupOf [bv])] := fun p hq => by
    rw [List.mem_singleton.mp hq]
    exact ⟨K'' _ _ ht hnt, (N2 _ (.tail _ (.head _))).2⟩
  refine ⟨rfl, k (.ref (hp.objs.size + 1)) _ h'' tk' F'' (newsJoin N'' N3) (fun b o e _ => K'' b o (kp b o e) ?_) (fun p hq => .inr ?_) ⟨_, dx, _, hs, tk, rfl, rfl⟩⟩
  · have hlt := Heap.lt_size e
    intro hm
    rw [List.map_cons, List.map_nil, List.mem_singleton] at hm
    rw [hm] at hlt; exact absurd hlt (Nat.not_lt.mpr (Nat.le_succ _))
  · rcases List.mem_append.mp hq with hq | hq
    · rcases R'' p hq with h | h
      · rw [List.map_cons, List.map_nil, List.mem_singleton] at h
        rw [h]; exact Heap.get?_none_of_le (Nat.le_succ _)
      · cases q : hp.get? p.1 with
        | none => rfl
        | some o => have := kp _ _ q; rw [h] at this; cases this
    · rw [List.mem_singleton.mp hq]; exact Heap.get?_none_of_le (Nat.le_refl _)

set_option maxHeartbeats 4000000 in
theorem system_error_ok {prog : Program} {w : World} {fa : Addr} : CallOk prog w 376 890 (.ref 158) [.ref fa] []
    (fun r foot' => ∃ e dx t hs tk ba ta aa t1 t2 t3 t4, r = .ref e ∧ foot' = [(e, excObj 44 t (some dx)), (dx, dictOf [⟨hs, .str "ball" tk, .ref ba⟩] 1), (t, tupOf [.ref ba]),
      (ba, tupOf [.str "s" t1, .int 16 t2, .ref ta]), (ta, tupOf [.ref fa, .ref aa]), (aa, tupOf [.str "a" t3, .int 25 t4])]) := by
  walk_at "CallOk"
  k_steps
  refine' Halt.mk (callOk_nil pe_ok ?B ?F ?X ?N ?T rfl rfl rfl rfl ?hd ?hu ?_)
  case B => k_asm
  case F => k_asm
  case X => k_asm
  case N => k_asm
  case T => k_asm
  case hd => exact Nat.le_of_ble_eq_true rfl
  case hu => exact Nat.le_of_ble_eq_true rfl
  intro r foot' h' tk' F' N' D' P'
  obtain ⟨e, dx, t, hs, tk, rfl, rfl⟩ := P'
  simp only [List.cons_append, List.nil_append] at N'
  k_steps
  exact give_ ⟨e, dx, t, hs, tk, _, _, _, _, _, _, _, rfl, rfl⟩ (fun _ h => h)

theorem wreset_D14 : True := by
  w_top off
  exact True.intro
theorem ro_all {g h : Heap} {L : Addr} {m : Str → Option Value} {full foot cs : List (Addr × Obj)} (F : Fr g L h m) (N : News g L h full) (hs : ∀ p ∈ foot, p ∈ full) (hr : ∀ p ∈ cs, g.get? p.1 = some p.2) : ∀ p ∈ cs, h.get? p.1 = some p.2 ∧ p.1 ∉ foot.map (·.1) :=
  fun p hp => ⟨F.keep _ _ (hr p hp), fun hm => by
    obtain ⟨q, hq, e⟩ := List.mem_map.mp hm
    have h1 := (N q (hs q hq)).2.2
    rw [e, hr p hp] at h1; cases h1⟩

def Grown (atoms : List Str) (funs : List (List Int)) (called : Str) (pvs : List Value) (atoms' : List Str) (funs' : List (List Int)) : Prop :=
  atoms' = addAtom (addAll atoms (txtsOf pvs)) called ∧ ∃ i : Nat, atoms'[i]? = some called ∧ funs' = if pvs.isEmpty then funs else addFun funs [((i : Nat) : Int), ((pvs.length : Nat) : Int)]
def FOk (atoms : List Str) (funs : List (List Int)) (nw : List (Addr × Obj)) (fv : Value) (called : Str) (pvs : List Value) : Prop :=
  if pvs.isEmpty then ArgOk atoms nw (.str called 0) fv else FormalOk atoms funs nw fv called pvs
theorem FormalOk.mono {atoms atoms' : List Str} {funs funs' : List (List Int)} {nw nw' : List (Addr × Obj)} {r : Value} {called : Str} {pvs : List Value} (h : FormalOk atoms funs nw r called pvs)
    (ha : ∀ (i : Nat) x, atoms[i]? = some x → atoms'[i]? = some x) (hf : ∀ (i : Nat) x, funs[i]? = some x → funs'[i]? = some x) (hn : ∀ q ∈ nw, q ∈ nw') : FormalOk atoms' funs' nw' r called pvs := by
  obtain ⟨fa, ta, t, u, avs, i, j, h1, h2, h3, h4, h5, h6⟩ := h.out
  exact ⟨fa, ta, t, u, avs, i, j, h1, hn _ h2, hn _ h3, h4.mono ha hn, ha _ _ h5, hf _ _ h6⟩
theorem FOk.mono {atoms atoms' : List Str} {funs funs' : List (List Int)} {nw nw' : List (Addr × Obj)} {r : Value} {called : Str} {pvs : List Value} (h : FOk atoms funs nw r called pvs)
    (ha : ∀ (i : Nat) x, atoms[i]? = some x → atoms'[i]? = some x) (hf : ∀ (i : Nat) x, funs[i]? = some x → funs'[i]? = some x) (hn : ∀ q ∈ nw, q ∈ nw') : FOk atoms' funs' nw' r called pvs := by
  unfold FOk at h ⊢
  split
  · rename_i q; rw [if_pos q] at h; exact h.mono ha hn
  · rename_i q; rw [if_neg q] at h; exact FormalOk.mono h ha hf hn

structure ErrOk (nw : List (Addr × Obj)) (r fv : Value) : Prop where
  out : ∃ e dx t hs tk ba ta aa t1 t2 t3 t4, r = .ref e ∧ (e, excObj 44 t (some dx)) ∈ nw ∧ (dx, dictOf [⟨hs, .str "ball" tk, .ref ba⟩] 1) ∈ nw ∧
    (ba, tupOf [.str "s" t1, .int 16 t2, .ref ta]) ∈ nw ∧ (ta, tupOf [fv, .ref aa]) ∈ nw ∧ (aa, tupOf [.str "a" t3, .int 25 t4]) ∈ nw
def ErrPost (prog : Program) (w : World) (b dx tx an fs fn : Addr) (atoms : List Str) (funs : List (List Int)) (called : Str) (pvs : List Value) (r : Value) (foot' : List (Addr × Obj)) : Prop :=
  ∃ nw symf atoms' funs' fv, foot' = nw ++ symf ∧ Grown atoms funs called pvs atoms' funs' ∧ ErrOk nw r fv ∧ FOk atoms' funs' nw fv called pvs ∧ (∀ p ∈ nw, p.1 ∉ symf.map (·.1)) ∧ SymS prog w b dx tx an fs fn atoms' funs' symf

theorem off_sym {a b : List (Addr × Obj)} (D : ∀ p ∈ a, p.1 ∉ b.map (·.1)) : ∀ p ∈ b, p.1 ∉ a.map (·.1) := fun p hp hm => by
  obtain ⟨q, hq, e⟩ := List.mem_map.mp hm
  exact D q hq (List.mem_map.mpr ⟨p, hp, e.symm⟩)
theorem off_sub {a b c : List (Addr × Obj)} (D : ∀ p ∈ a, p.1 ∉ b.map (·.1)) (h : ∀ p ∈ c, p ∈ b) : ∀ p ∈ a, p.1 ∉ c.map (·.1) := fun p hp hm => by
  obtain ⟨q, hq, e⟩ := List.mem_map.mp hm
  exact D p hp (List.mem_map.mpr ⟨q, h q hq, e⟩)

theorem err_end {prog : Program} {w : World} {b dx tx an fs fn : Addr} {atoms : List Str} {funs : List (List Int)} {called : Str} {pvs : List Value} {nw symf full six pre : List (Addr × Obj)} {atoms' : List Str} {funs' : List (List Int)} {fa : Addr} {r : Value}
    (hG : Grown atoms funs called pvs atoms' funs') (hF : FOk atoms' funs' nw (.ref fa) called pvs) (hd : ∀ p ∈ nw, p.1 ∉ symf.map (·.1)) (hS : SymS prog w b dx tx an fs fn atoms' funs' symf)
    (D : ∀ p ∈ pre ++ (nw ++ symf), p.1 ∉ six.map (·.1))
    (h6 : ∃ e dx t hs tk ba ta aa t1 t2 t3 t4, r = .ref e ∧ six = [(e, excObj 44 t (some dx)), (dx, dictOf [⟨hs, .str "ball" tk, .ref ba⟩] 1), (t, tupOf [.ref ba]),
      (ba, tupOf [.str "s" t1, .int 16 t2, .ref ta]), (ta, tupOf [.ref fa, .ref aa]), (aa, tupOf [.str "a" t3, .int 25 t4])]) (hfull : full = six ++ (pre ++ (nw ++ symf))) :
    Give full (ErrPost prog w b dx tx an fs fn atoms funs called pvs r) := by
  subst hfull
  refine give_ (l := (six ++ nw) ++ symf) ⟨six ++ nw, symf, atoms', funs', .ref fa, rfl, hG, ?_, hF.mono (fun _ _ h => h) (fun _ _ h => h) (fun q hq => List.mem_append_right _ hq), ?_, hS⟩ ?_
  · obtain ⟨e, dx, t, hs, tk, ba, ta, aa, t1, t2, t3, t4, rfl, rfl⟩ := h6
    exact ⟨e, dx, t, hs, tk, ba, ta, aa, t1, t2, t3, t4, rfl, by simp, by simp, by simp, by simp, by simp⟩
  · intro p hp
    rcases List.mem_append.mp hp with h | h
    · exact off_sub (off_sym D) (fun q hq => List.mem_append_right _ (List.mem_append_right _ hq)) p h
    · exact hd p h
  · intro p hp
    simp only [List.mem_append] at hp ⊢
    rcases hp with (h | h) | h <;> simp [h]

theorem grownF {atoms : List Str} {funs : List (List Int)} {called : Str} {v : Value} {r : List Value} {i : Nat} (hi : (addAtom (addAll atoms (txtsOf (v :: r))) called)[i]? = some called) :
    Grown atoms funs called (v :: r) (addAtom (addAll atoms (txtsOf (v :: r))) called) (addFun funs [((i : Nat) : Int), (((v :: r).length : Nat) : Int)]) := ⟨rfl, i, hi, rfl⟩
theorem fokF {atoms : List Str} {funs : List (List Int)} {called : Str} {v f : Value} {r : List Value} {nw : List (Addr × Obj)} (h : FormalOk atoms funs nw f called (v :: r)) : FOk atoms funs nw f called (v :: r) := h
theorem off1 {d : Addr} {o : Obj} {l : List (Addr × Obj)} (h : ∀ p ∈ l, p.1 < d) : ∀ p ∈ [(d, o)], p.1 ∉ l.map (·.1) := fun p hp => by rw [List.mem_singleton.mp hp]; exact off_of_all h
local macro_rules | `(tactic| walk_at "m_errA") => `(tactic| (refine CodeOkR.call ?_; walk_at "CodeOkR"; k_steps))

set_option maxHeartbeats 4000000 in
theorem type_error_ok {prog : Program} {w : World} {b dx tx an fs fn a : Addr} {atoms : List Str} {funs : List (List Int)} {foot cs : List (Addr × Obj)} {x : Str} {t : Tok} (hS : SymS prog w b dx tx an fs fn atoms funs foot)
    (hl1 : atoms.length ≤ 900) (hl2 : funs.length ≤ 900) (hp : PartsOk cs [.str x t, .ref a]) :
    CallOkR prog w 368 790 (.ref 179) [.ref b, .str x t, .ref a] cs foot (ErrPost prog w b dx tx an fs fn atoms funs "type_error" [.str x t, .ref a]) := by
  walk_at "m_errA"
  (rename Fr _ _ _ _ => F0)
  (rename News _ _ _ _ => N0)
  (rename (∀ p ∈ cs, Heap.get? _ p.1 = some p.2) => hro)
  rename_i pt _ l1
  refine' Halt.mk (callOkR_tail (pre := [(pt, tupOf [.str x t, .ref a])]) (formal_of_ok hS ?l1 ?l2 hp).call ?B ?F ?X ?N ?T ?e ?hn rfl rfl rfl rfl ?hd ?hu ?hr ?_)
  case l1 => walk_at "m_size"
  case l2 => omega
  case B => k_asm
  case F => k_asm
  case X => k_asm
  case N => k_asm
  case T => k_asm
  case e => rfl
  case hn => exact off1 l1
  case hd => exact Nat.le_of_ble_eq_true rfl
  case hu => exact Nat.le_of_ble_eq_true rfl
  case hr => exact List.forall_mem_cons.mpr ⟨⟨(N0 _ (.head _)).1, off_of_all l1⟩, ro_all F0 N0 (fun _ h => .tail _ h) hro⟩
  intro r foot' h' tk' F' N' D' P'
  obtain ⟨nw, symf, i, rfl, hF, hi, hdis, hS'⟩ := P'
  obtain ⟨fa, rfl⟩ : ∃ fa, r = .ref fa := by
    obtain ⟨fa, _, _, _, _, _, _, e, _⟩ := hF.out
    exact ⟨fa, e⟩
  clear F0 N0
  k_steps
  refine' Halt.mk (callOk_nil system_error_ok ?B ?F ?X ?N ?T rfl rfl rfl rfl ?hd ?hu ?_)
  case B => k_asm
  case F => k_asm
  case X => k_asm
  case N => k_asm
  case T => k_asm
  case hd => exact Nat.le_of_ble_eq_true rfl
  case hu => exact Nat.le_of_ble_eq_true rfl
  intro r foot' h' tk' F' N' D'' P'
  obtain ⟨e, dx', t', hs', tk', ba, ta, aa, t1, t2, t3, t4, rfl, rfl⟩ := P'
  k_steps
  exact err_end (grownF hi) (fokF hF) hdis hS' D'' ⟨e, dx', t', hs', tk', ba, ta, aa, t1, t2, t3, t4, rfl, rfl⟩ rfl

set_option maxHeartbeats 4000000 in
theorem domain_error_ok {prog : Program} {w : World} {b dx tx an fs fn a : Addr} {atoms : List Str} {funs : List (List Int)} {foot cs : List (Addr × Obj)} {x : Str} {t : Tok} (hS : SymS prog w b dx tx an fs fn atoms funs foot)
    (hl1 : atoms.length ≤ 900) (hl2 : funs.length ≤ 900) (hp : PartsOk cs [.str x t, .ref a]) :
    CallOkR prog w 368 790 (.ref 186) [.ref b, .str x t, .ref a] cs foot (ErrPost prog w b dx tx an fs fn atoms funs "domain_error" [.str x t, .ref a]) := by
  walk_at "m_errA"
  (rename Fr _ _ _ _ => F0)
  (rename News _ _ _ _ => N0)
  (rename (∀ p ∈ cs, Heap.get? _ p.1 = some p.2) => hro)
  rename_i pt _ l1
  refine' Halt.mk (callOkR_tail (pre := [(pt, tupOf [.str x t, .ref a])]) (formal_of_ok hS ?l1 ?l2 hp).call ?B ?F ?X ?N ?T ?e ?hn rfl rfl rfl rfl ?hd ?hu ?hr ?_)
  case l1 => walk_at "m_size"
  case l2 => omega
  case B => k_asm
  case F => k_asm
  case X => k_asm
  case N => k_asm
  case T => k_asm
  case e => rfl
  case hn => exact off1 l1
  case hd => exact Nat.le_of_ble_eq_true rfl
  case hu => exact Nat.le_of_ble_eq_true rfl
  case hr => exact List.forall_mem_cons.mpr ⟨⟨(N0 _ (.head _)).1, off_of_all l1⟩, ro_all F0 N0 (fun _ h => .tail _ h) hro⟩
  intro r foot' h' tk' F' N' D' P'
  obtain ⟨nw, symf, i, rfl, hF, hi, hdis, hS'⟩ := P'
  obtain ⟨fa, rfl⟩ : ∃ fa, r = .ref fa := by
    obtain ⟨fa, _, _, _, _, _, _, e, _⟩ := hF.out
    exact ⟨fa, e⟩
  clear F0 N0
  k_steps
  refine' Halt.mk (callOk_nil system_error_ok ?B ?F ?X ?N ?T rfl rfl rfl rfl ?hd ?hu ?_)
  case B => k_asm
  case F => k_asm
  case X => k_asm
  case N => k_asm
  case T => k_asm
  case hd => exact Nat.le_of_ble_eq_true rfl
  case hu => exact Nat.le_of_ble_eq_true rfl
  intro r foot' h' tk' F' N' D'' P'
  obtain ⟨e, dx', t', hs', tk', ba, ta, aa, t1, t2, t3, t4, rfl, rfl⟩ := P'
  k_steps
  exact err_end (grownF hi) (fokF hF) hdis hS' D'' ⟨e, dx', t', hs', tk', ba, ta, aa, t1, t2, t3, t4, rfl, rfl⟩ rfl

set_option maxHeartbeats 4000000 in
theorem existence_error_ok {prog : Program} {w : World} {b dx tx an fs fn a : Addr} {atoms : List Str} {funs : List (List Int)} {foot cs : List (Addr × Obj)} {x : Str} {t : Tok} (hS : SymS prog w b dx tx an fs fn atoms funs foot)
    (hl1 : atoms.length ≤ 900) (hl2 : funs.length ≤ 900) (hp : PartsOk cs [.str x t, .ref a]) :
    CallOkR prog w 368 790 (.ref 193) [.ref b, .str x t, .ref a] cs foot (ErrPost prog w b dx tx an fs fn atoms funs "existence_error" [.str x t, .ref a]) := by
  walk_at "m_errA"
  (rename Fr _ _ _ _ => F0)
  (rename News _ _ _ _ => N0)
  (rename (∀ p ∈ cs, Heap.get? _ p.1 = some p.2) => hro)
  rename_i pt _ l1
  refine' Halt.mk (callOkR_tail (pre := [(pt, tupOf [.str x t, .ref a])]) (formal_of_ok hS ?l1 ?l2 hp).call ?B ?F ?X ?N ?T ?e ?hn rfl rfl rfl rfl ?hd ?hu ?hr ?_)
  case l1 => walk_at "m_size"
  case l2 => omega
  case B => k_asm
  case F => k_asm
  case X => k_asm
  case N => k_asm
  case T => k_asm
  case e => rfl
  case hn => exact off1 l1
  case hd => exact Nat.le_of_ble_eq_true rfl
  case hu => exact Nat.le_of_ble_eq_true rfl
  case hr => exact List.forall_mem_cons.mpr ⟨⟨(N0 _ (.head _)).1, off_of_all l1⟩, ro_all F0 N0 (fun _ h => .tail _ h) hro⟩
  intro r foot' h' tk' F' N' D' P'
  obtain ⟨nw, symf, i, rfl, hF, hi, hdis, hS'⟩ := P'
  obtain ⟨fa, rfl⟩ : ∃ fa, r = .ref fa := by
    obtain ⟨fa, _, _, _, _, _, _, e, _⟩ := hF.out
    exact ⟨fa, e⟩
  clear F0 N0
  k_steps
  refine' Halt.mk (callOk_nil system_error_ok ?B ?F ?X ?N ?T rfl rfl rfl rfl ?hd ?hu ?_)
  case B => k_asm
  case F => k_asm
  case X => k_asm
  case N => k_asm
  case T => k_asm
  case hd => exact Nat.le_of_ble_eq_true rfl
  case hu => exact Nat.le_of_ble_eq_true rfl
  intro r foot' h' tk' F' N' D'' P'
  obtain ⟨e, dx', t', hs', tk', ba, ta, aa, t1, t2, t3, t4, rfl, rfl⟩ := P'
  k_steps
  exact err_end (grownF hi) (fokF hF) hdis hS' D'' ⟨e, dx', t', hs', tk', ba, ta, aa, t1, t2, t3, t4, rfl, rfl⟩ rfl

set_option maxHeartbeats 4000000 in
theorem permission_error_ok {prog : Program} {w : World} {b dx tx an fs fn a : Addr} {atoms : List Str} {funs : List (List Int)} {foot cs : List (Addr × Obj)} {x : Str} {t : Tok} {y : Str} {u : Tok} (hS : SymS prog w b dx tx an fs fn atoms funs foot)
    (hl1 : atoms.length ≤ 900) (hl2 : funs.length ≤ 900) (hp : PartsOk cs [.str x t, .str y u, .ref a]) :
    CallOkR prog w 368 790 (.ref 200) [.ref b, .str x t, .str y u, .ref a] cs foot (ErrPost prog w b dx tx an fs fn atoms funs "permission_error" [.str x t, .str y u, .ref a]) := by
  walk_at "m_errA"
  (rename Fr _ _ _ _ => F0)
  (rename News _ _ _ _ => N0)
  (rename (∀ p ∈ cs, Heap.get? _ p.1 = some p.2) => hro)
  rename_i pt _ l1
  refine' Halt.mk (callOkR_tail (pre := [(pt, tupOf [.str x t, .str y u, .ref a])]) (formal_of_ok hS ?l1 ?l2 hp).call ?B ?F ?X ?N ?T ?e ?hn rfl rfl rfl rfl ?hd ?hu ?hr ?_)
  case l1 => walk_at "m_size"
  case l2 => omega
  case B => k_asm
  case F => k_asm
  case X => k_asm
  case N => k_asm
  case T => k_asm
  case e => rfl
  case hn => exact off1 l1
  case hd => exact Nat.le_of_ble_eq_true rfl
  case hu => exact Nat.le_of_ble_eq_true rfl
  case hr => exact List.forall_mem_cons.mpr ⟨⟨(N0 _ (.head _)).1, off_of_all l1⟩, ro_all F0 N0 (fun _ h => .tail _ h) hro⟩
  intro r foot' h' tk' F' N' D' P'
  obtain ⟨nw, symf, i, rfl, hF, hi, hdis, hS'⟩ := P'
  obtain ⟨fa, rfl⟩ : ∃ fa, r = .ref fa := by
    obtain ⟨fa, _, _, _, _, _, _, e, _⟩ := hF.out
    exact ⟨fa, e⟩
  clear F0 N0
  k_steps
  refine' Halt.mk (callOk_nil system_error_ok ?B ?F ?X ?N ?T rfl rfl rfl rfl ?hd ?hu ?_)
  case B => k_asm
  case F => k_asm
  case X => k_asm
  case N => k_asm
  case T => k_asm
  case hd => exact Nat.le_of_ble_eq_true rfl
  case hu => exact Nat.le_of_ble_eq_true rfl
  intro r foot' h' tk' F' N' D'' P'
  obtain ⟨e, dx', t', hs', tk', ba, ta, aa, t1, t2, t3, t4, rfl, rfl⟩ := P'
  k_steps
  exact err_end (grownF hi) (fokF hF) hdis hS' D'' ⟨e, dx', t', hs', tk', ba, ta, aa, t1, t2, t3, t4, rfl, rfl⟩ rfl

set_option maxHeartbeats 4000000 in
theorem representation_error_ok {prog : Program} {w : World} {b dx tx an fs fn : Addr} {atoms : List Str} {funs : List (List Int)} {foot cs : List (Addr × Obj)} {x : Str} {t : Tok} (hS : SymS prog w b dx tx an fs fn atoms funs foot)
    (hl1 : atoms.length ≤ 900) (hl2 : funs.length ≤ 900) (hp : PartsOk cs [.str x t]) :
    CallOkR prog w 368 790 (.ref 207) [.ref b, .str x t] cs foot (ErrPost prog w b dx tx an fs fn atoms funs "representation_error" [.str x t]) := by
  walk_at "m_errA"
  (rename Fr _ _ _ _ => F0)
  (rename News _ _ _ _ => N0)
  (rename (∀ p ∈ cs, Heap.get? _ p.1 = some p.2) => hro)
  rename_i pt _ l1
  refine' Halt.mk (callOkR_tail (pre := [(pt, tupOf [.str x t])]) (formal_of_ok hS ?l1 ?l2 hp).call ?B ?F ?X ?N ?T ?e ?hn rfl rfl rfl rfl ?hd ?hu ?hr ?_)
  case l1 => walk_at "m_size"
  case l2 => omega
  case B => k_asm
  case F => k_asm
  case X => k_asm
  case N => k_asm
  case T => k_asm
  case e => rfl
  case hn => exact off1 l1
  case hd => exact Nat.le_of_ble_eq_true rfl
  case hu => exact Nat.le_of_ble_eq_true rfl
  case hr => exact List.forall_mem_cons.mpr ⟨⟨(N0 _ (.head _)).1, off_of_all l1⟩, ro_all F0 N0 (fun _ h => .tail _ h) hro⟩
  intro r foot' h' tk' F' N' D' P'
  obtain ⟨nw, symf, i, rfl, hF, hi, hdis, hS'⟩ := P'
  obtain ⟨fa, rfl⟩ : ∃ fa, r = .ref fa := by
    obtain ⟨fa, _, _, _, _, _, _, e, _⟩ := hF.out
    exact ⟨fa, e⟩
  clear F0 N0
  k_steps
  refine' Halt.mk (callOk_nil system_error_ok ?B ?F ?X ?N ?T rfl rfl rfl rfl ?hd ?hu ?_)
  case B => k_asm
  case F => k_asm
  case X => k_asm
  case N => k_asm
  case T => k_asm
  case hd => exact Nat.le_of_ble_eq_true rfl
  case hu => exact Nat.le_of_ble_eq_true rfl
  intro r foot' h' tk' F' N' D'' P'
  obtain ⟨e, dx', t', hs', tk', ba, ta, aa, t1, t2, t3, t4, rfl, rfl⟩ := P'
  k_steps
  exact err_end (grownF hi) (fokF hF) hdis hS' D'' ⟨e, dx', t', hs', tk', ba, ta, aa, t1, t2, t3, t4, rfl, rfl⟩ rfl

set_option maxHeartbeats 4000000 in
theorem evaluation_error_ok {prog : Program} {w : World} {b dx tx an fs fn : Addr} {atoms : List Str} {funs : List (List Int)} {foot cs : List (Addr × Obj)} {x : Str} {t : Tok} (hS : SymS prog w b dx tx an fs fn atoms funs foot)
    (hl1 : atoms.length ≤ 900) (hl2 : funs.length ≤ 900) (hp : PartsOk cs [.str x t]) :
    CallOkR prog w 368 790 (.ref 214) [.ref b, .str x t] cs foot (ErrPost prog w b dx tx an fs fn atoms funs "evaluation_error" [.str x t]) := by
  walk_at "m_errA"
  (rename Fr _ _ _ _ => F0)
  (rename News _ _ _ _ => N0)
  (rename (∀ p ∈ cs, Heap.get? _ p.1 = some p.2) => hro)
  rename_i pt _ l1
  refine' Halt.mk (callOkR_tail (pre := [(pt, tupOf [.str x t])]) (formal_of_ok hS ?l1 ?l2 hp).call ?B ?F ?X ?N ?T ?e ?hn rfl rfl rfl rfl ?hd ?hu ?hr ?_)
  case l1 => walk_at "m_size"
  case l2 => omega
  case B => k_asm
  case F => k_asm
  case X => k_asm
  case N => k_asm
  case T => k_asm
  case e => rfl
  case hn => exact off1 l1
  case hd => exact Nat.le_of_ble_eq_true rfl
  case hu => exact Nat.le_of_ble_eq_true rfl
  case hr => exact List.forall_mem_cons.mpr ⟨⟨(N0 _ (.head _)).1, off_of_all l1⟩, ro_all F0 N0 (fun _ h => .tail _ h) hro⟩
  intro r foot' h' tk' F' N' D' P'
  obtain ⟨nw, symf, i, rfl, hF, hi, hdis, hS'⟩ := P'
  obtain ⟨fa, rfl⟩ : ∃ fa, r = .ref fa := by
    obtain ⟨fa, _, _, _, _, _, _, e, _⟩ := hF.out
    exact ⟨fa, e⟩
  clear F0 N0
  k_steps
  refine' Halt.mk (callOk_nil system_error_ok ?B ?F ?X ?N ?T rfl rfl rfl rfl ?hd ?hu ?_)
  case B => k_asm
  case F => k_asm
  case X => k_asm
  case N => k_asm
  case T => k_asm
  case hd => exact Nat.le_of_ble_eq_true rfl
  case hu => exact Nat.le_of_ble_eq_true rfl
  intro r foot' h' tk' F' N' D'' P'
  obtain ⟨e, dx', t', hs', tk', ba, ta, aa, t1, t2, t3, t4, rfl, rfl⟩ := P'
  k_steps
  exact err_end (grownF hi) (fokF hF) hdis hS' D'' ⟨e, dx', t', hs', tk', ba, ta, aa, t1, t2, t3, t4, rfl, rfl⟩ rfl

set_option maxHeartbeats 4000000 in
theorem resource_error_ok {prog : Program} {w : World} {b dx tx an fs fn : Addr} {atoms : List Str} {funs : List (List Int)} {foot cs : List (Addr × Obj)} {x : Str} {t : Tok} (hS : SymS prog w b dx tx an fs fn atoms funs foot)
    (hl1 : atoms.length ≤ 900) (hl2 : funs.length ≤ 900) (hp : PartsOk cs [.str x t]) :
    CallOkR prog w 368 790 (.ref 221) [.ref b, .str x t] cs foot (ErrPost prog w b dx tx an fs fn atoms funs "resource_error" [.str x t]) := by
  walk_at "m_errA"
  (rename Fr _ _ _ _ => F0)
  (rename News _ _ _ _ => N0)
  (rename (∀ p ∈ cs, Heap.get? _ p.1 = some p.2) => hro)
  rename_i pt _ l1
  refine' Halt.mk (callOkR_tail (pre := [(pt, tupOf [.str x t])]) (formal_of_ok hS ?l1 ?l2 hp).call ?B ?F ?X ?N ?T ?e ?hn rfl rfl rfl rfl ?hd ?hu ?hr ?_)
  case l1 => walk_at "m_size"
  case l2 => omega
  case B => k_asm
  case F => k_asm
  case X => k_asm
  case N => k_asm
  case T => k_asm
  case e => rfl
  case hn => exact off1 l1
  case hd => exact Nat.le_of_ble_eq_true rfl
  case hu => exact Nat.le_of_ble_eq_true rfl
  case hr => exact List.forall_mem_cons.mpr ⟨⟨(N0 _ (.head _)).1, off_of_all l1⟩, ro_all F0 N0 (fun _ h => .tail _ h) hro⟩
  intro r foot' h' tk' F' N' D' P'
  obtain ⟨nw, symf, i, rfl, hF, hi, hdis, hS'⟩ := P'
  obtain ⟨fa, rfl⟩ : ∃ fa, r = .ref fa := by
    obtain ⟨fa, _, _, _, _, _, _, e, _⟩ := hF.out
    exact ⟨fa, e⟩
  clear F0 N0
  k_steps
  refine' Halt.mk (callOk_nil system_error_ok ?B ?F ?X ?N ?T rfl rfl rfl rfl ?hd ?hu ?_)
  case B => k_asm
  case F => k_asm
  case X => k_asm
  case N => k_asm
  case T => k_asm
  case hd => exact Nat.le_of_ble_eq_true rfl
  case hu => exact Nat.le_of_ble_eq_true rfl
  intro r foot' h' tk' F' N' D'' P'
  obtain ⟨e, dx', t', hs', tk', ba, ta, aa, t1, t2, t3, t4, rfl, rfl⟩ := P'
  k_steps
  exact err_end (grownF hi) (fokF hF) hdis hS' D'' ⟨e, dx', t', hs', tk', ba, ta, aa, t1, t2, t3, t4, rfl, rfl⟩ rfl

set_option maxHeartbeats 4000000 in
theorem syntax_error_ok {prog : Program} {w : World} {b dx tx an fs fn : Addr} {atoms : List Str} {funs : List (List Int)} {foot cs : List (Addr × Obj)} {x : Str} {t : Tok} (hS : SymS prog w b dx tx an fs fn atoms funs foot)
    (hl1 : atoms.length ≤ 900) (hl2 : funs.length ≤ 900) (hp : PartsOk cs [.str x t]) :
    CallOkR prog w 368 790 (.ref 228) [.ref b, .str x t] cs foot (ErrPost prog w b dx tx an fs fn atoms funs "syntax_error" [.str x t]) := by
  walk_at "m_errA"
  (rename Fr _ _ _ _ => F0)
  (rename News _ _ _ _ => N0)
  (rename (∀ p ∈ cs, Heap.get? _ p.1 = some p.2) => hro)
  rename_i pt _ l1
  refine' Halt.mk (callOkR_tail (pre := [(pt, tupOf [.str x t])]) (formal_of_ok hS ?l1 ?l2 hp).call ?B ?F ?X ?N ?T ?e ?hn rfl rfl rfl rfl ?hd ?hu ?hr ?_)
  case l1 => walk_at "m_size"
  case l2 => omega
  case B => k_asm
  case F => k_asm
  case X => k_asm
  case N => k_asm
  case T => k_asm
  case e => rfl
  case hn => exact off1 l1
  case hd => exact Nat.le_of_ble_eq_true rfl
  case hu => exact Nat.le_of_ble_eq_true rfl
  case hr => exact List.forall_mem_cons.mpr ⟨⟨(N0 _ (.head _)).1, off_of_all l1⟩, ro_all F0 N0 (fun _ h => .tail _ h) hro⟩
  intro r foot' h' tk' F' N' D' P'
  obtain ⟨nw, symf, i, rfl, hF, hi, hdis, hS'⟩ := P'
  obtain ⟨fa, rfl⟩ : ∃ fa, r = .ref fa := by
    obtain ⟨fa, _, _, _, _, _, _, e, _⟩ := hF.out
    exact ⟨fa, e⟩
  clear F0 N0
  k_steps
  refine' Halt.mk (callOk_nil system_error_ok ?B ?F ?X ?N ?T rfl rfl rfl rfl ?hd ?hu ?_)
  case B => k_asm
  case F => k_asm
  case X => k_asm
  case N => k_asm
  case T => k_asm
  case hd => exact Nat.le_of_ble_eq_true rfl
  case hu => exact Nat.le_of_ble_eq_true rfl
  intro r foot' h' tk' F' N' D'' P'
  obtain ⟨e, dx', t', hs', tk', ba, ta, aa, t1, t2, t3, t4, rfl, rfl⟩ := P'
  k_steps
  exact err_end (grownF hi) (fokF hF) hdis hS' D'' ⟨e, dx', t', hs', tk', ba, ta, aa, t1, t2, t3, t4, rfl, rfl⟩ rfl

set_option maxHeartbeats 4000000 in
theorem instantiation_error_ok {prog : Program} {w : World} {b dx tx an fs fn : Addr} {atoms : List Str} {funs : List (List Int)} {foot : List (Addr × Obj)} (hS : SymS prog w b dx tx an fs fn atoms funs foot)
    (hl1 : atoms.length ≤ 900) :
    CallOk prog w 368 790 (.ref 172) [.ref b] foot (ErrPost prog w b dx tx an fs fn atoms funs "instantiation_error" []) := by
  obtain ⟨h1', h2', h3', h4', t1', t2', t3', t4', n', rest', rfl⟩ := symOpen hS
  walk_at "CallOk"
  k_steps
  (rename SymS _ _ _ _ _ _ _ _ _ _ _ => hS')
  (rename _ = some (Str.ofString "instantiation_error") => hi)
  (rename _ ∧ _ ∧ AllLt _ _ => hl)
  refine' Halt.mk (callOk_nil system_error_ok ?B ?F ?X ?N ?T rfl rfl rfl rfl ?hd ?hu ?_)
  case B => k_asm
  case F => k_asm
  case X => k_asm
  case N => k_asm
  case T => k_asm
  case hd => exact Nat.le_of_ble_eq_true rfl
  case hu => exact Nat.le_of_ble_eq_true rfl
  intro r foot' h' tk' F' N' D'' P'
  obtain ⟨e, dx', t', hs', tk', ba, ta, aa, t1, t2, t3, t4, rfl, rfl⟩ := P'
  k_steps
  refine err_end (pre := []) (nw := [_]) ⟨rfl, _, hi, rfl⟩ ?_ ?_ hS' D'' ⟨e, dx', t', hs', tk', ba, ta, aa, t1, t2, t3, t4, rfl, rfl⟩ rfl
  · exact ⟨_, _, _, _, rfl, .head _, hi⟩
  · intro p hp
    rw [List.mem_singleton.mp hp]
    exact off_of_lt hl

theorem wreset_D15 : True := by
  w_top off
  exact True.intro
section
variable {prog : Program} {w : World} {D U : Nat} {fn : Value} {vs : List Value} {foot full : List (Addr × Obj)} {Post : Value → List (Addr × Obj) → Prop} {A A₀ : Around} {env : Env} {outer : List Env} {base h₀ : Heap} {L : Addr} {m : Str → Option Value}
  {mean : ExcName → Option Value} {mg mb : Str → Option Value} {s : Shared} {Q E : Value → Shared → Prop}
theorem callOk_mid {pre post : List (Addr × Obj)} (C : CallOk prog w D U fn vs foot Post) (B : Below A₀ base outer h₀) (F : Fr h₀ L s.heap m) (X : (hd.heap_39 w.params).In h₀) (N : News h₀ L s.heap full) (T : Top hd.view_39 (looseW hd.view_39 []) mean mg mb h₀)
    (e : full = pre ++ (foot ++ post)) (hn : ∀ p ∈ pre, p.1 ∉ foot.map (·.1)) (hn2 : ∀ p ∈ post, p.1 ∉ foot.map (·.1)) (hA : A.frames = some (env :: outer)) (hf : env.frame = some L) (hke : env.scope.kind = .function) (hh : A.handled = none) (hd : A.depth ≤ D) (hu : A.units ≤ U)
    (k : ∀ r foot' h' tk', Fr h₀ L h' m → News h₀ L h' (pre ++ (foot' ++ post)) → (∀ p ∈ pre, p.1 ∉ foot'.map (·.1)) → (∀ p ∈ post, p.1 ∉ foot'.map (·.1)) → Post r foot' → Q r { s with heap := h', toks := tk' }) : wpAny (model prog w) A (call fn vs) Q E s := by
  subst e
  refine callOk_use C B F X N T (fun p hp => List.mem_append_right _ (List.mem_append_left _ hp)) hA hf hke hh hd hu fun r foot' h' tk' F' N' K' R' P => ?_
  have N0 : News h₀ L s.heap pre := newsPart N fun p hp => List.mem_append_left _ hp
  have N1 : News h₀ L s.heap post := newsPart N fun p hp => List.mem_append_right _ (List.mem_append_right _ hp)
  have off : ∀ l, News h₀ L s.heap l → (∀ p ∈ l, p.1 ∉ foot.map (·.1)) → ∀ p ∈ l, p.1 ∉ foot'.map (·.1) := fun l Nl hl p hp hq => by
    obtain ⟨q, hq, e⟩ := List.mem_map.mp hq
    rcases R' q hq with h1 | h1
    · exact hl p hp (e ▸ h1)
    · have h2 := (Nl p hp).1
      rw [e] at h1; rw [h1] at h2; cases h2
  exact k r foot' h' tk' F' (newsJoin (newsKept N0 K' hn) (newsJoin N' (newsKept N1 K' hn2))) (off _ N0 hn) (off _ N1 hn2) P
end

theorem potOff {p nl : Addr} {pl l : List (Addr × Obj)} (hP : PotL p nl pl) (h1 : p ∉ l.map (·.1)) (h2 : nl ∉ l.map (·.1)) : ∀ q ∈ pl, q.1 ∉ l.map (·.1) := by
  obtain ⟨_, _, _, _, _, _, _, _, _, _, rfl⟩ := hP
  exact List.forall_mem_cons.mpr ⟨h1, List.forall_mem_cons.mpr ⟨h2, List.forall_mem_nil _⟩⟩
theorem offPotL {p nl : Addr} {pl l : List (Addr × Obj)} (hP : PotL p nl pl) (h1 : p ∉ l.map (·.1)) (h2 : nl ∉ l.map (·.1)) : ∀ q ∈ l, q.1 ∉ pl.map (·.1) := off_sym (potOff hP h1 h2)
theorem potHas {p nl : Addr} {pl : List (Addr × Obj)} (hP : PotL p nl pl) : (∃ o, (p, o) ∈ pl) ∧ ∃ o, (nl, o) ∈ pl := by
  obtain ⟨_, _, _, _, _, _, _, _, _, _, rfl⟩ := hP
  exact ⟨⟨_, .head _⟩, ⟨_, .tail _ (.head _)⟩⟩

theorem lawTexts_ok {x : Str} (h : x ∈ lawTexts) : PyData.strOk x = true := by
  have : ∀ y ∈ lawTexts, PyData.strOk y = true := by decide +kernel
  exact this x h
theorem lawTexts_len {x : Str} (h : x ∈ lawTexts) : x.length ≤ 100 := by
  have : ∀ y ∈ lawTexts, y.length ≤ 100 := by decide
  exact this x h

structure HeldT (p : Prop) : Prop where
  out : p
/-- what the pot's and the table's owner is given -/
def ExcPost (prog : Program) (w : World) (b dx tx an fs fn p nl : Addr) (atoms : List Str) (funs : List (List Int)) (r : Value) (foot' : List (Addr × Obj)) : Prop :=
  ∃ ro pl symf atoms' funs' ra r0 fv called tc la n pvs, foot' = ro ++ (pl ++ symf) ∧ r = .ref ra ∧ (ra, tupOf [r0, .str called tc, .ref la]) ∈ ro ∧ (la, listOf (List.toArray pvs) n) ∈ ro ∧ PartsOk ro pvs ∧ pvs.length ≤ 3 ∧ (called.length ≤ 100 ∧ PyData.strOk called = true) ∧
    Grown atoms funs called pvs atoms' funs' ∧ ErrOk ro r0 fv ∧ FOk atoms' funs' ro fv called pvs ∧ PotL p nl pl ∧ SymS prog w b dx tx an fs fn atoms' funs' symf ∧
    (∀ q ∈ ro, q.1 ∉ pl.map (·.1)) ∧ (∀ q ∈ ro, q.1 ∉ symf.map (·.1)) ∧ p ∉ symf.map (·.1) ∧ nl ∉ symf.map (·.1)

theorem tupOffPot {g h : Heap} {L p nl : Addr} {full pl cs : List (Addr × Obj)} (N : News g L h full) (hP : PotL p nl pl) (hs : ∀ q ∈ pl, q ∈ full) (hm : ∀ q ∈ cs, q ∈ full) (hc : ∀ q ∈ cs, q.2.cls = .type "tuple") : ∀ q ∈ cs, q.1 ∉ pl.map (·.1) := by
  intro a ha hq
  obtain ⟨q, hq, e⟩ := List.mem_map.mp hq
  have h1 := (N _ (hs q hq)).1
  rw [e, (N _ (hm a ha)).1] at h1
  obtain ⟨_, _, _, _, _, _, _, _, _, _, rfl⟩ := hP
  have h2 : q.2.cls = .type "list" := by
    rcases List.mem_cons.mp hq with rfl | hq
    · rfl
    · rw [List.mem_singleton.mp hq]
  have h3 : q.2 = a.2 := (Option.some.inj h1).symm
  rw [h3, hc a ha] at h2
  exact notTup (n := "list") (by decide) h2.symm
theorem ro_led {g h : Heap} {L : Addr} {full foot cs : List (Addr × Obj)} (N : News g L h full) (hm : ∀ q ∈ cs, q ∈ full) (ho : ∀ q ∈ cs, q.1 ∉ foot.map (·.1)) : ∀ q ∈ cs, h.get? q.1 = some q.2 ∧ q.1 ∉ foot.map (·.1) := fun q hq => ⟨(N _ (hm q hq)).1, ho q hq⟩

theorem PartsOk.mono {cs cs' : List (Addr × Obj)} {vs : List Value} (h : PartsOk cs vs) (hs : ∀ q ∈ cs, q ∈ cs') : PartsOk cs' vs := by
  induction h with
  | nil => exact .nil
  | txt hx ho _ ih => exact .txt hx ho ih
  | ref hx hd hk _ ih => exact .ref (hs _ hx) (hd.mono hs) hk ih

theorem exc_end {prog : Program} {w : World} {b dx tx an fs fn p nl ra la : Addr} {atoms atoms' : List Str} {funs funs' : List (List Int)} {cs pl nw symf : List (Addr × Obj)} {called : Str} {tc : Tok} {n : Nat} {pvs : List Value} {r0 fv : Value}
    (hp : PartsOk cs pvs) (hP : PotL p nl pl) (hG : Grown atoms funs called pvs atoms' funs') (hE : ErrOk nw r0 fv) (hK : FOk atoms' funs' nw fv called pvs) (hdis : ∀ q ∈ nw, q.1 ∉ symf.map (·.1)) (hS : SymS prog w b dx tx an fs fn atoms' funs' symf)
    (D : ∀ q ∈ cs ++ pl, q.1 ∉ (nw ++ symf).map (·.1)) (hcs : ∀ q ∈ cs, q.1 ∉ pl.map (·.1)) (hla : Held (∀ q ∈ cs ++ (pl ++ (nw ++ symf)), q.1 < la)) (hra : HeldT (∀ q ∈ (la, listOf (List.toArray pvs) n) :: (cs ++ (pl ++ (nw ++ symf))), q.1 < ra)) (hlen : pvs.length ≤ 3) (hcl : called.length ≤ 100 ∧ PyData.strOk called = true) :
    Give ((ra, tupOf [r0, .str called tc, .ref la]) :: (la, listOf (List.toArray pvs) n) :: (cs ++ (pl ++ (nw ++ symf)))) (ExcPost prog w b dx tx an fs fn p nl atoms funs (.ref ra)) := by
  have big : ∀ (d : Addr) (l : List (Addr × Obj)), (∀ q ∈ l, q.1 < d) → d ∉ l.map (·.1) := fun _ _ h => off_of_all h
  refine give_ (l := ((ra, tupOf [r0, .str called tc, .ref la]) :: (la, listOf (List.toArray pvs) n) :: (cs ++ nw)) ++ (pl ++ symf))
    ⟨(ra, tupOf [r0, .str called tc, .ref la]) :: (la, listOf (List.toArray pvs) n) :: (cs ++ nw), pl, symf, atoms', funs', ra, r0, fv, called, tc, la, n, pvs, rfl, rfl, .head _, .tail _ (.head _), hp.mono (fun q h => by simp [h]), hlen, hcl, hG, ?_,
      hK.mono (fun _ _ h => h) (fun _ _ h => h) (fun q h => by simp [h]), hP, hS, ?_, ?_, ?_, ?_⟩ ?_
  · obtain ⟨e, dx, t, hs, tk, ba, ta, aa, t1, t2, t3, t4, h1, h2, h3, h4, h5, h6⟩ := hE
    exact ⟨e, dx, t, hs, tk, ba, ta, aa, t1, t2, t3, t4, h1, by simp [h2], by simp [h3], by simp [h4], by simp [h5], by simp [h6]⟩
  · refine List.forall_mem_cons.mpr ⟨big _ _ fun q h => hra.out q (by simp [h]), List.forall_mem_cons.mpr ⟨big _ _ fun q h => hla.out q (by simp [h]), fun q hq => ?_⟩⟩
    rcases List.mem_append.mp hq with h | h
    · exact hcs q h
    · exact off_sub (off_sym D) (c := pl) (fun q h => by simp [h]) q (by simp [h])
  · refine List.forall_mem_cons.mpr ⟨big _ _ fun q h => hra.out q (by simp [h]), List.forall_mem_cons.mpr ⟨big _ _ fun q h => hla.out q (by simp [h]), fun q hq => ?_⟩⟩
    rcases List.mem_append.mp hq with h | h
    · exact off_sub D (c := symf) (fun q h => by simp [h]) q (by simp [h])
    · exact hdis q h
  · obtain ⟨⟨o, h1⟩, -⟩ := potHas hP
    exact off_sub D (c := symf) (fun q h => by simp [h]) (p, o) (by simp [h1])
  · obtain ⟨-, o, h1⟩ := potHas hP
    exact off_sub D (c := symf) (fun q h => by simp [h]) (nl, o) (by simp [h1])
  · intro q hq
    simp only [List.cons_append, List.mem_cons, List.mem_append] at hq ⊢
    rcases hq with h | h | (h | h) | h | h <;> simp [h]
local macro_rules | `(tactic| walk_at "newList") => `(tactic| (k_here; k_dflt (refine' newList_K ?k1 ?k2 ?_; (case k1 => k_asm); (case k2 => k_asm); k_whole); intro l' h' F' N' l1; have lq := Held.mk l1; (try k_lt l1); (try k_sweep)))
local macro_rules | `(tactic| walk_at "newTuple") => `(tactic| (k_here; kup_bare; k_dflt (refine' kup_newTuple ?F ?N ?_ ?z; (case F => k_asm); (case N => k_asm); (case z => kmk_size)); intro D' h' F' N' l1; have lq := HeldT.mk l1; (try k_lt l1); (try k_sweep)))
set_option maxHeartbeats 4000000 in
theorem exception_ok {prog : Program} {w : World} {b dx tx an fs fn p nl : Addr} {atoms : List Str} {funs : List (List Int)} {pl symf : List (Addr × Obj)} (hne : @Ne Nat p nl) (hP : PotL p nl pl) (hS : SymS prog w b dx tx an fs fn atoms funs symf)
    (hl1 : atoms.length ≤ 900) (hl2 : funs.length ≤ 900) (o1 : p ∉ symf.map (·.1)) (o2 : nl ∉ symf.map (·.1)) :
    CallOk prog w 360 780 (.ref 268) [.ref b, .ref p] (pl ++ symf) (ExcPost prog w b dx tx an fs fn p nl atoms funs) := by
  walk_at "CallOk"
  k_steps
  refine' Halt.mk (callOk_mid (pre := []) (foot := pl) (digit_ok hne ?h0 ?hpy hP) ?zB ?zF ?zX ?zN ?zT ?ze ?zhn ?zhn2 rfl rfl rfl rfl ?zhd ?zhu ?_)
  case zB => k_asm
  case zF => k_asm
  case zX => k_asm
  case zN => k_asm
  case zT => k_asm
  case zhd => exact Nat.le_of_ble_eq_true rfl
  case zhu => exact Nat.le_of_ble_eq_true rfl
  case ze => exact rfl
  case h0 => decide +kernel
  case hpy => exact noPy_small (by decide +kernel)
  case zhn => exact List.forall_mem_nil _
  case zhn2 => exact offPotL hP o1 o2
  intro r foot' h' tk' F' N' D' D'' P'
  obtain ⟨⟨which, t, rfl, w0, w1⟩, hP1⟩ := P'
  simp only [List.nil_append] at N'
  k_steps
  refine' Halt.mk (callOk_mid (pre := []) (foot := foot') (text_ok hne hP1) ?zB ?zF ?zX ?zN ?zT ?ze ?zhn ?zhn2 rfl rfl rfl rfl ?zhd ?zhu ?_)
  case zB => k_asm
  case zF => k_asm
  case zX => k_asm
  case zN => k_asm
  case zT => k_asm
  case zhd => exact Nat.le_of_ble_eq_true rfl
  case zhu => exact Nat.le_of_ble_eq_true rfl
  case ze => exact rfl
  case zhn => exact List.forall_mem_nil _
  case zhn2 => exact offPotL hP1 o1 o2
  intro r foot'' h' tk' F' N' D' D'' P'
  obtain ⟨⟨x, tx', rfl, hx⟩, hP2⟩ := P'
  simp only [List.nil_append] at N'
  k_steps
  refine' Halt.mk (callOk_mid (pre := []) (foot := foot'') (culprit_ok hne hP2) ?zB ?zF ?zX ?zN ?zT ?ze ?zhn ?zhn2 rfl rfl rfl rfl ?zhd ?zhu ?_)
  case zB => k_asm
  case zF => k_asm
  case zX => k_asm
  case zN => k_asm
  case zT => k_asm
  case zhd => exact Nat.le_of_ble_eq_true rfl
  case zhu => exact Nat.le_of_ble_eq_true rfl
  case ze => exact rfl
  case zhn => exact List.forall_mem_nil _
  case zhn2 => exact offPotL hP2 o1 o2
  intro r foot3 h' tk' F' N' D' D'' P'
  obtain ⟨a, its, d, cs, pl3, rfl, rfl, hca, hDa, hka, hcl, hP3⟩ := P'
  simp only [List.nil_append, List.append_assoc] at N'
  have hxl : x.length ≤ 100 := lawTexts_len hx
  have hp2 : PartsOk cs [.str x tx', .ref a] := .txt hxl (lawTexts_ok hx) (.ref hca hDa hka .nil)
  have hp1 : PartsOk cs [.str x tx'] := .txt hxl (lawTexts_ok hx) .nil
  have hcs : ∀ q ∈ cs, q.1 ∉ pl3.map (·.1) := tupOffPot N' hP3 (fun q h => by simp [h]) (fun q h => by simp [h]) hcl
  have hpre : ∀ q ∈ cs ++ pl3, q.1 ∉ symf.map (·.1) := off_sym D''
  have hprc : ∀ q ∈ cs, q.1 ∉ symf.map (·.1) := fun q h => hpre q (List.mem_append_left _ h)
  k_steps
  · (rename News _ _ _ _ => N')
    (rename Fr _ _ _ _ => F')
    refine' Halt.mk (callOkR_tail (pre := cs ++ pl3) (type_error_ok hS hl1 hl2 hp2) ?zB ?zF ?zX ?zN ?zT ?ze ?zhn rfl rfl rfl rfl ?zhd ?zhu ?zhr ?_)
    case zB => k_asm
    case zF => k_asm
    case zX => k_asm
    case zN => k_asm
    case zT => k_asm
    case zhd => exact Nat.le_of_ble_eq_true rfl
    case zhu => exact Nat.le_of_ble_eq_true rfl
    case ze => exact (List.append_assoc _ _ _).symm
    case zhn => exact hpre
    case zhr => exact ro_led N' (fun q h => by simp [h]) hprc
    intro r foot' h' tk' F'' N'' D5 P'
    obtain ⟨nw, symf', atoms', funs', fv, rfl, hG, hE, hK, hdis, hS'⟩ := P'
    simp only [List.append_assoc] at N''
    clear N' F'
    k_steps
    (rename HeldT _ => hra)
    (rename Held _ => hla)
    exact exc_end (cs := cs) hp2 hP3 hG hE hK hdis hS' D5 hcs hla hra (Nat.le_of_ble_eq_true rfl) (by decide +kernel)
  · (rename News _ _ _ _ => N')
    (rename Fr _ _ _ _ => F')
    refine' Halt.mk (callOkR_tail (pre := cs ++ pl3) (domain_error_ok hS hl1 hl2 hp2) ?zB ?zF ?zX ?zN ?zT ?ze ?zhn rfl rfl rfl rfl ?zhd ?zhu ?zhr ?_)
    case zB => k_asm
    case zF => k_asm
    case zX => k_asm
    case zN => k_asm
    case zT => k_asm
    case zhd => exact Nat.le_of_ble_eq_true rfl
    case zhu => exact Nat.le_of_ble_eq_true rfl
    case ze => exact (List.append_assoc _ _ _).symm
    case zhn => exact hpre
    case zhr => exact ro_led N' (fun q h => by simp [h]) hprc
    intro r foot' h' tk' F'' N'' D5 P'
    obtain ⟨nw, symf', atoms', funs', fv, rfl, hG, hE, hK, hdis, hS'⟩ := P'
    simp only [List.append_assoc] at N''
    clear N' F'
    k_steps
    (rename HeldT _ => hra)
    (rename Held _ => hla)
    exact exc_end (cs := cs) hp2 hP3 hG hE hK hdis hS' D5 hcs hla hra (Nat.le_of_ble_eq_true rfl) (by decide +kernel)
  · (rename News _ _ _ _ => N')
    (rename Fr _ _ _ _ => F')
    refine' Halt.mk (callOkR_tail (pre := cs ++ pl3) (existence_error_ok hS hl1 hl2 hp2) ?zB ?zF ?zX ?zN ?zT ?ze ?zhn rfl rfl rfl rfl ?zhd ?zhu ?zhr ?_)
    case zB => k_asm
    case zF => k_asm
    case zX => k_asm
    case zN => k_asm
    case zT => k_asm
    case zhd => exact Nat.le_of_ble_eq_true rfl
    case zhu => exact Nat.le_of_ble_eq_true rfl
    case ze => exact (List.append_assoc _ _ _).symm
    case zhn => exact hpre
    case zhr => exact ro_led N' (fun q h => by simp [h]) hprc
    intro r foot' h' tk' F'' N'' D5 P'
    obtain ⟨nw, symf', atoms', funs', fv, rfl, hG, hE, hK, hdis, hS'⟩ := P'
    simp only [List.append_assoc] at N''
    clear N' F'
    k_steps
    (rename HeldT _ => hra)
    (rename Held _ => hla)
    exact exc_end (cs := cs) hp2 hP3 hG hE hK hdis hS' D5 hcs hla hra (Nat.le_of_ble_eq_true rfl) (by decide +kernel)
  · (rename News _ _ _ _ => N')
    (rename Fr _ _ _ _ => F')
    refine' Halt.mk (callOk_mid (pre := cs) (foot := pl3) (text_ok hne hP3) ?zB ?zF ?zX ?zN ?zT ?ze ?zhn ?zhn2 rfl rfl rfl rfl ?zhd ?zhu ?_)
    case zB => k_asm
    case zF => k_asm
    case zX => k_asm
    case zN => k_asm
    case zT => k_asm
    case zhd => exact Nat.le_of_ble_eq_true rfl
    case zhu => exact Nat.le_of_ble_eq_true rfl
    case ze => exact rfl
    case zhn => exact hcs
    case zhn2 => exact offPotL hP3 o1 o2
    intro r foot4 h' tk' F4 N4 D4 D4' P'
    obtain ⟨⟨y, ty', rfl, hy⟩, hP4⟩ := P'
    skip
    clear N' F'
    k_steps
    (rename News _ _ _ _ => N4)
    (rename Fr _ _ _ _ => F4)
    have hpre4 : ∀ q ∈ cs ++ foot4, q.1 ∉ symf.map (·.1) := fun q h => (List.mem_append.mp h).elim (hprc q) (off_sym D4' q)
    have hp3 : PartsOk cs [.str x tx', .str y ty', .ref a] := .txt hxl (lawTexts_ok hx) (.txt (lawTexts_len hy) (lawTexts_ok hy) (.ref hca hDa hka .nil))
    refine' Halt.mk (callOkR_tail (pre := cs ++ foot4) (permission_error_ok hS hl1 hl2 hp3) ?zB ?zF ?zX ?zN ?zT ?ze ?zhn rfl rfl rfl rfl ?zhd ?zhu ?zhr ?_)
    case zB => k_asm
    case zF => k_asm
    case zX => k_asm
    case zN => k_asm
    case zT => k_asm
    case zhd => exact Nat.le_of_ble_eq_true rfl
    case zhu => exact Nat.le_of_ble_eq_true rfl
    case ze => exact (List.append_assoc _ _ _).symm
    case zhn => exact hpre4
    case zhr => exact ro_led N4 (fun q h => by simp [h]) hprc
    intro r foot' h' tk' F'' N'' D5 P'
    obtain ⟨nw, symf', atoms', funs', fv, rfl, hG, hE, hK, hdis, hS'⟩ := P'
    simp only [List.append_assoc] at N''
    clear N4 F4
    k_steps
    (rename HeldT _ => hra)
    (rename Held _ => hla)
    exact exc_end (cs := cs) hp3 hP4 hG hE hK hdis hS' D5 D4 hla hra (Nat.le_of_ble_eq_true rfl) (by decide +kernel)
  · (rename News _ _ _ _ => N')
    (rename Fr _ _ _ _ => F')
    refine' Halt.mk (callOkR_tail (pre := cs ++ pl3) (representation_error_ok hS hl1 hl2 hp1) ?zB ?zF ?zX ?zN ?zT ?ze ?zhn rfl rfl rfl rfl ?zhd ?zhu ?zhr ?_)
    case zB => k_asm
    case zF => k_asm
    case zX => k_asm
    case zN => k_asm
    case zT => k_asm
    case zhd => exact Nat.le_of_ble_eq_true rfl
    case zhu => exact Nat.le_of_ble_eq_true rfl
    case ze => exact (List.append_assoc _ _ _).symm
    case zhn => exact hpre
    case zhr => exact ro_led N' (fun q h => by simp [h]) hprc
    intro r foot' h' tk' F'' N'' D5 P'
    obtain ⟨nw, symf', atoms', funs', fv, rfl, hG, hE, hK, hdis, hS'⟩ := P'
    simp only [List.append_assoc] at N''
    clear N' F'
    k_steps
    (rename HeldT _ => hra)
    (rename Held _ => hla)
    exact exc_end (cs := cs) hp1 hP3 hG hE hK hdis hS' D5 hcs hla hra (Nat.le_of_ble_eq_true rfl) (by decide +kernel)
  · (rename News _ _ _ _ => N')
    (rename Fr _ _ _ _ => F')
    refine' Halt.mk (callOkR_tail (pre := cs ++ pl3) (evaluation_error_ok hS hl1 hl2 hp1) ?zB ?zF ?zX ?zN ?zT ?ze ?zhn rfl rfl rfl rfl ?zhd ?zhu ?zhr ?_)
    case zB => k_asm
    case zF => k_asm
    case zX => k_asm
    case zN => k_asm
    case zT => k_asm
    case zhd => exact Nat.le_of_ble_eq_true rfl
    case zhu => exact Nat.le_of_ble_eq_true rfl
    case ze => exact (List.append_assoc _ _ _).symm
    case zhn => exact hpre
    case zhr => exact ro_led N' (fun q h => by simp [h]) hprc
    intro r foot' h' tk' F'' N'' D5 P'
    obtain ⟨nw, symf', atoms', funs', fv, rfl, hG, hE, hK, hdis, hS'⟩ := P'
    simp only [List.append_assoc] at N''
    clear N' F'
    k_steps
    (rename HeldT _ => hra)
    (rename Held _ => hla)
    exact exc_end (cs := cs) hp1 hP3 hG hE hK hdis hS' D5 hcs hla hra (Nat.le_of_ble_eq_true rfl) (by decide +kernel)
  · (rename News _ _ _ _ => N')
    (rename Fr _ _ _ _ => F')
    refine' Halt.mk (callOkR_tail (pre := cs ++ pl3) (resource_error_ok hS hl1 hl2 hp1) ?zB ?zF ?zX ?zN ?zT ?ze ?zhn rfl rfl rfl rfl ?zhd ?zhu ?zhr ?_)
    case zB => k_asm
    case zF => k_asm
    case zX => k_asm
    case zN => k_asm
    case zT => k_asm
    case zhd => exact Nat.le_of_ble_eq_true rfl
    case zhu => exact Nat.le_of_ble_eq_true rfl
    case ze => exact (List.append_assoc _ _ _).symm
    case zhn => exact hpre
    case zhr => exact ro_led N' (fun q h => by simp [h]) hprc
    intro r foot' h' tk' F'' N'' D5 P'
    obtain ⟨nw, symf', atoms', funs', fv, rfl, hG, hE, hK, hdis, hS'⟩ := P'
    simp only [List.append_assoc] at N''
    clear N' F'
    k_steps
    (rename HeldT _ => hra)
    (rename Held _ => hla)
    exact exc_end (cs := cs) hp1 hP3 hG hE hK hdis hS' D5 hcs hla hra (Nat.le_of_ble_eq_true rfl) (by decide +kernel)
  · (rename News _ _ _ _ => N')
    (rename Fr _ _ _ _ => F')
    refine' Halt.mk (callOkR_tail (pre := cs ++ pl3) (syntax_error_ok hS hl1 hl2 hp1) ?zB ?zF ?zX ?zN ?zT ?ze ?zhn rfl rfl rfl rfl ?zhd ?zhu ?zhr ?_)
    case zB => k_asm
    case zF => k_asm
    case zX => k_asm
    case zN => k_asm
    case zT => k_asm
    case zhd => exact Nat.le_of_ble_eq_true rfl
    case zhu => exact Nat.le_of_ble_eq_true rfl
    case ze => exact (List.append_assoc _ _ _).symm
    case zhn => exact hpre
    case zhr => exact ro_led N' (fun q h => by simp [h]) hprc
    intro r foot' h' tk' F'' N'' D5 P'
    obtain ⟨nw, symf', atoms', funs', fv, rfl, hG, hE, hK, hdis, hS'⟩ := P'
    simp only [List.append_assoc] at N''
    clear N' F'
    k_steps
    (rename HeldT _ => hra)
    (rename Held _ => hla)
    exact exc_end (cs := cs) hp1 hP3 hG hE hK hdis hS' D5 hcs hla hra (Nat.le_of_ble_eq_true rfl) (by decide +kernel)
  · (rename News _ _ _ _ => N')
    (rename Fr _ _ _ _ => F')
    refine' Halt.mk (callOk_tail (pre := cs ++ pl3) (instantiation_error_ok hS hl1) ?zB ?zF ?zX ?zN ?zT ?ze ?zhn rfl rfl rfl rfl ?zhd ?zhu ?_)
    case zB => k_asm
    case zF => k_asm
    case zX => k_asm
    case zN => k_asm
    case zT => k_asm
    case zhd => exact Nat.le_of_ble_eq_true rfl
    case zhu => exact Nat.le_of_ble_eq_true rfl
    case ze => exact (List.append_assoc _ _ _).symm
    case zhn => exact hpre
    intro r foot' h' tk' F'' N'' D5 P'
    obtain ⟨nw, symf', atoms', funs', fv, rfl, hG, hE, hK, hdis, hS'⟩ := P'
    simp only [List.append_assoc] at N''
    clear N' F'
    k_steps
    (rename HeldT _ => hra)
    (rename Held _ => hla)
    exact exc_end (cs := cs) .nil hP3 hG hE hK hdis hS' D5 hcs hla hra (Nat.le_of_ble_eq_true rfl) (by decide +kernel)

theorem wreset_D16 : True := by
  w_top off
  exact True.intro
local macro_rules | `(tactic| walk_at "eval ListComp") => `(tactic| (k_here; refine Halt.out ?_))
def isTxt : Value → Bool
  | .str _ _ => true
  | _ => false
theorem compT_filter {prog : Program} {w : World} {A : Around} {s : Shared} {h₀ : Heap} {L : Addr} {m : Str → Option Value} {env : Env} {ct elt : Expr} {x : Str} {scope : Scope} {cl : List (Str × Addr)} {S : List (Addr × Obj) → Prop} {items : List Value} {Fin : List Value → List (Addr × Obj) → Prop} {news : List (Addr × Obj)} (keepP : Value → Bool)
    (turn : ∀ (R1 R2 : Value → List (Addr × Obj) → Prop) (i : Nat) (v : Value) (I : Addr) (oI : Obj) (C : Addr) (oC : Obj) (D : Addr) (m₂ : Str → Option Value) (h : Heap) (tk : Nat) (ys : List Value) (E' : Value → Shared → Prop), items[i]? = some v → LCg.NsObj oC m₂ → m₂ x = some v → Fr h₀ L h m → News h₀ L h ((I, oI) :: (C, oC) :: (D, LCg.lst ys) :: news) → LCg.Off3 I C D news → ((@Ne Nat I C) ∧ (@Ne Nat I D) ∧ (@Ne Nat C D)) →
      (keepP v = true → R1 v news) → (keepP v = false → R2 .none news) →
      wpAny (model prog w) A (PySem.isTrue ct (compEnvC scope cl C env) (eval ct (compEnvC scope cl C env))) (fun ok s' => if ok = true then
        wpAny (model prog w) A (eval elt (compEnvC scope cl C env)) (LCg.CompEnd h₀ L m { s with heap := h, toks := tk } I oI C oC D (LCg.lst ys) S R1) E' s'
        else LCg.CompEnd h₀ L m { s with heap := h, toks := tk } I oI C oC D (LCg.lst ys) S R2 Value.none s') E' { s with heap := h, toks := tk })
    (fin : Fin (items.filter keepP) news) : ∀ k i, k + i = items.length → LCt.CompRestT prog w A h₀ L m env ct elt x scope cl s S (fun i v => items.toArray[i]? = some v) Fin k i ((items.take i).filter keepP) news
  | 0, i, e => by
    have : items.take i = items := List.take_of_length_le (by omega)
    rw [this]; exact LCt.CompRestT.zero fin
  | k + 1, i, e => by
    refine LCt.CompRestT.succ fun v I oI C oC D m₂ h tk E' hv hC hx F N off ne => ?_
    have hv' : items[i]? = some v := by simpa using hv
    have ih := compT_filter keepP turn fin k (i + 1) (by omega)
    rw [take_succ_of hv', List.filter_append] at ih
    refine turn _ _ i v I oI C oC D m₂ h tk _ E' hv' hC hx F N off ne (fun hk => ?_) (fun hk => ?_)
    · have : [v].filter keepP = [v] := by simp [hk]
      rw [this] at ih; exact ih
    · have : [v].filter keepP = [] := by simp [hk]
      rw [this, List.append_nil] at ih; exact ih

theorem TxtsAre.strs {vs : List Value} {xs : List Str} (h : TxtsAre vs xs) : StrsAre vs xs := by
  induction h with
  | nil => exact .nil
  | cons _ _ _ ih => exact .cons _ _ ih
theorem filter_txts : ∀ pvs : List Value, TxtsAre (pvs.filter isTxt) (txtsOf pvs)
  | [] => .nil
  | v :: r => by
    have ih := filter_txts r
    cases v with
    | str x t => exact .cons x t ih
    | _ => exact ih
theorem any_mem {l : List Str} {x : Str} : (l.any (· == x)) = true ↔ x ∈ l := by
  rw [List.any_eq_true]
  exact ⟨fun ⟨y, hy, e⟩ => (eq_of_beq e) ▸ hy, fun h => ⟨x, h, beq_self_eq_true x⟩⟩
theorem addAll_take {l names : List Str} {i : Nat} {x : Str} (h : names[i]? = some x) : addAll l (names.take (i + 1)) = addAtom (addAll l (names.take i)) x := by
  rw [take_succ_of h, addAll_snoc]
abbrev Cells (kn k0 k1 : Addr) (m : Nat) (vs0 vs1 : List Value) (m0 m1 : Nat) : List (Addr × Obj) := [(kn, listOf [.ref k0, .ref k1].toArray m), (k0, listOf (List.toArray vs0) m0), (k1, listOf (List.toArray vs1) m1)]
theorem cells_turn1 {kn k0 k1 I D2 : Addr} {o o2 : Obj} {m m' m1 : Nat} {vs vs1 : List Value} {K0 names : List Str} {i : Nat} {x : Str} {P : Prop} (hx : names[i]? = some x) (hT : TxtsAre vs (addAll K0 (names.take i)))
    (ha : ((addAll K0 (names.take i)).any (fun y => y == x)) = true) (ho : ∀ p ∈ [(I, o), (D2, o2)], p.1 ∉ (Cells kn k0 k1 m vs vs1 m' m1).map (·.1)) (hP : P) :
    GiveT ((I, o) :: (D2, o2) :: Cells kn k0 k1 m vs vs1 m' m1) [(I, o), (D2, o2)] (fun F => P ∧ ∃ vs m', F = Cells kn k0 k1 m vs vs1 m' m1 ∧ TxtsAre vs (addAll K0 (names.take (i + 1)))) :=
  giveT_ (l := Cells kn k0 k1 m vs vs1 m' m1) ⟨hP, vs, m', rfl, by rw [addAll_take hx, addAtom_mem (any_mem.mp ha)]; exact hT⟩ ho (fun _ h => h)
theorem cells_turn2 {kn k0 k1 I D2 : Addr} {o o2 : Obj} {m m' m1 : Nat} {vs vs1 : List Value} {K0 names : List Str} {i : Nat} {x : Str} {t : Tok} {P : Prop} (hx : names[i]? = some x) (hT : TxtsAre vs (addAll K0 (names.take i)))
    (ha : ((addAll K0 (names.take i)).any (fun y => y == x)) = false) (ho : ∀ p ∈ [(I, o), (D2, o2)], p.1 ∉ (Cells kn k0 k1 m vs vs1 m' m1).map (·.1)) (hP : P) :
    GiveT [(I, o), (D2, o2), (kn, listOf [.ref k0, .ref k1].toArray m), (k0, listOf (vs ++ [Value.str x t]).toArray (m' + 1)), (k1, listOf (List.toArray vs1) m1)] [(I, o), (D2, o2)] (fun F => P ∧ ∃ vs m', F = Cells kn k0 k1 m vs vs1 m' m1 ∧ TxtsAre vs (addAll K0 (names.take (i + 1)))) := by
  have hn : x ∉ addAll K0 (names.take i) := fun h => by rw [any_mem.mpr h] at ha; cases ha
  exact giveT_ (l := Cells kn k0 k1 m (vs ++ [Value.str x t]) vs1 (m' + 1) m1) ⟨hP, vs ++ [Value.str x t], m' + 1, rfl, by rw [addAll_take hx, addAtom, if_neg hn]; exact hT.push x t⟩ ho (fun _ h => h)
theorem fakeNews {h : Heap} {l : List (Addr × Obj)} (hl : ∀ p ∈ l, h.get? p.1 = some p.2) : News { objs := #[] } h.objs.size h l := fun p hp => ⟨hl p hp, Nat.ne_of_lt (Heap.lt_size (hl p hp)), by
  cases q : ({ objs := #[] } : Heap).get? p.1 with
  | none => rfl
  | some o => exact absurd (Heap.lt_size q) (Nat.not_lt_zero _)⟩
theorem len_base {prog : Program} {w : World} {A : Around} {E : Value → Shared → Prop} {s : Shared} {g : Heap} {L a : Addr} {m : Str → Option Value} {its : List Value} {n : Nat} {Q : Value → Shared → Prop}
    (F : Fr g L s.heap m) (hl : g.get? a = some (listOf its.toArray n)) (hz : its.length ≤ 100000) (h : Q (.int (its.length : Nat) (s.toks + 1)) { s with toks := s.toks + 1 + 1 }) : wpAny (model prog w) A (call (.builtin "len") [.ref a]) Q E s :=
  call_len_list (PySem.IsL.isList (n := n) (F.keep _ _ hl)) (by rw [List.size_toArray]; omega) (by rw [List.size_toArray]; exact h)
theorem PartsOk.dat {cs : List (Addr × Obj)} {vs : List Value} (h : PartsOk cs vs) : ∃ ds, DatAll cs vs ds ∧ (∀ d ∈ ds, kqdOk 6 d = true) ∧ ds.length = vs.length := by
  induction h with
  | nil => exact ⟨[], .nil, (fun d hd => nomatch hd), rfl⟩
  | txt hx ho _ ih =>
    obtain ⟨ds, h1, h2, h3⟩ := ih
    exact ⟨.str _ :: ds, .cons (.str _ _) h1, List.forall_mem_cons.mpr ⟨by simp [kqdOk, ho], h2⟩, by simp [h3]⟩
  | ref hx hd hk _ ih =>
    obtain ⟨ds, h1, h2, h3⟩ := ih
    exact ⟨_ :: ds, .cons hd h1, List.forall_mem_cons.mpr ⟨hk, h2⟩, by simp [h3]⟩
theorem kqdOk_up : ∀ (n : Nat) (d : Dat), kqdOk n d = true → kqdOk (n + 1) d = true
  | 0, d, h => by cases d <;> simp_all [kqdOk]
  | n + 1, d, h => by
    cases d with
    | tuple ds => simp only [kqdOk, List.all_eq_true] at h ⊢; exact fun x hx => kqdOk_up n x (h x hx)
    | list ds => simp only [kqdOk, List.all_eq_true] at h ⊢; exact fun x hx => kqdOk_up n x (h x hx)
    | _ => simp_all [kqdOk]
def addRow (l : List (Str × Int)) (k : Str × Int) : List (Str × Int) := if k ∈ l then l else l ++ [k]
def rowDat (r : Str × Int) : Dat := .tuple [.str r.1, .int r.2]
theorem RowsAre.dat {cs : List (Addr × Obj)} {vs : List Value} {rows : List (Str × Int)} (h : RowsAre cs vs rows) : DatAll cs vs (rows.map rowDat) := by
  induction h with
  | nil => exact .nil
  | cons hm _ ih => exact .cons (.tuple hm (.cons (.str _ _) (.cons (.int _ _) .nil))) ih
theorem rowDat_ok {r : Str × Int} (h : PyData.strOk r.1 = true) : kqdOk 8 (rowDat r) = true := by simp [rowDat, kqdOk, h]
theorem rowDat_mem {r : Str × Int} {rows : List (Str × Int)} : rowDat r ∈ rows.map rowDat ↔ r ∈ rows := by
  rw [List.mem_map]
  refine ⟨fun ⟨x, hx, e⟩ => ?_, fun h => ⟨r, h, rfl⟩⟩
  obtain ⟨a, b⟩ := x
  obtain ⟨c, d⟩ := r
  simp only [rowDat, Dat.tuple.injEq, List.cons.injEq, Dat.str.injEq, Dat.int.injEq, and_true] at e
  obtain ⟨rfl, rfl⟩ := e
  exact hx
section
variable {prog : Program} {w : World} {A : Around} {E : Value → Shared → Prop} {s : Shared} {g : Heap} {L : Addr} {m : Str → Option Value} {full cs : List (Addr × Obj)} {Q : Value → Shared → Prop}
theorem both_get (F : Fr g L s.heap m) (N : News g L s.heap full) (hro : ∀ p ∈ cs, g.get? p.1 = some p.2) : ∀ p ∈ cs ++ full, s.heap.get? p.1 = some p.2 := fun p hp =>
  (List.mem_append.mp hp).elim (fun h => F.keep _ _ (hro p h)) fun h => (N p h).1
theorem ne_nil {la D : Addr} {pvs : List Value} {n k : Nat} {ds : List Dat} (F : Fr g L s.heap m) (N : News g L s.heap full) (hro : ∀ p ∈ (la, listOf (List.toArray pvs) n) :: cs, g.get? p.1 = some p.2) (hD : (D, listOf (List.toArray []) k) ∈ full)
    (hd : DatAll cs pvs ds) (hk : ∀ d ∈ ds, kqdOk 6 d = true) (hu : A.units + 64 < cLine) (h : Q (.bool (!pvs.isEmpty)) s) : wpAny (model prog w) A (compareOp .NotEq (.ref la) (.ref D)) Q E s := by
  refine kqd_ne (fakeNews (both_get F N hro)) (oa := listOf (List.toArray pvs) n) (List.mem_append_left _ (.head _)) rfl rfl hd (fun p hp => List.mem_append_left _ (.tail _ hp)) (ob := listOf (List.toArray []) k) (n₂ := []) (List.mem_append_right _ hD) rfl rfl DatAll.nil (fun p hp => nomatch hp)
    (fun d hm => kqdOk_up _ _ (kqdOk_up _ _ (hk d hm))) (fun d hm => nomatch hm) hu ?_
  have e : decide (ds = []) = pvs.isEmpty := by
    have hl := hd.length
    cases pvs <;> cases ds <;> simp_all
  rw [e]; exact h
theorem row_notIn {k1 T : Addr} {vs1 : List Value} {K1 : List (Str × Int)} {n1 : Nat} {x : Str} {t u : Tok} {i : Int} (F : Fr g L s.heap m) (N : News g L s.heap full) (hro : ∀ p ∈ cs, g.get? p.1 = some p.2) (hk1 : (k1, listOf (List.toArray vs1) n1) ∈ full)
    (hT : (T, tupOf [.str x t, .int i u]) ∈ full) (hR : RowsAre cs vs1 K1) (hok : ∀ r ∈ K1, PyData.strOk r.1 = true) (hx : PyData.strOk x = true) (hu : A.units + 64 < cLine) (h : Q (.bool (!decide ((x, i) ∈ K1))) s) :
    wpAny (model prog w) A (compareOp .NotIn (.ref T) (.ref k1)) Q E s := by
  refine kqd_notIn (fakeNews (both_get F N hro)) (oa := listOf (List.toArray vs1) n1) (List.mem_append_right _ hk1) rfl rfl hR.dat (fun p hp => List.mem_append_left _ hp) (n₂ := full) (d := rowDat (x, i)) (.tuple hT (.cons (.str _ _) (.cons (.int _ _) .nil))) (fun p hp => List.mem_append_right _ hp)
    (fun d hm => ?_) (rowDat_ok hx) hu ?_
  · obtain ⟨r, hr, rfl⟩ := List.mem_map.mp hm
    exact rowDat_ok (hok r hr)
  · exact Eq.mp (congrArg (fun b => Q (.bool (!b)) s) (decide_eq_decide.mpr rowDat_mem.symm)) h
end
local macro_rules | `(tactic| walk_at "call builtin:len") => `(tactic| (k_here; (with_reducible show wpAny _ _ (call (Value.builtin "len") [Value.ref _]) _ _ _); k_dflt (refine' len_base ?F ?m ?z ?_; (case F => k_asm); (case m => assumption); (case z => walk_at "m_size"))))
local macro_rules | `(tactic| walk_at "compareOp NotIn str ref") => `(tactic| (k_here; (with_reducible show wpAny _ _ (compareOp CmpOp.NotIn (Value.str _ _) (Value.ref _)) _ _ _); (with_unfolding_all refine' notin_list_strs ?k1 ?k2 ?_; (case k1 => exact News.isList (by k_asm) (by k_mem)); (case k2 => assumption); k_whole)))
def NeedsPost (kn k0 k1 : Addr) (m : Nat) (cs : List (Addr × Obj)) (K0 : List Str) (K1 : List (Str × Int)) (called : Str) (pvs : List Value) (_ : Value) (foot' : List (Addr × Obj)) : Prop :=
  ∃ vs0 m0 vs1 m1 new, foot' = Cells kn k0 k1 m vs0 vs1 m0 m1 ++ new ∧ TxtsAre vs0 (addAll K0 (called :: txtsOf pvs)) ∧ RowsAre (new ++ cs) vs1 (if pvs.isEmpty then K1 else addRow K1 (called, ((pvs.length : Nat) : Int))) ∧
    (∀ q ∈ new, q.1 ∉ (Cells kn k0 k1 m vs0 vs1 m0 m1).map (·.1))
theorem RowsAre.mono {cs cs' : List (Addr × Obj)} {vs : List Value} {rows : List (Str × Int)} (h : RowsAre cs vs rows) (hs : ∀ q ∈ cs, q ∈ cs') : RowsAre cs' vs rows := by
  induction h with
  | nil => exact .nil
  | cons hm _ ih => exact .cons (hs _ hm) ih
theorem RowsAre.push {cs : List (Addr × Obj)} {vs : List Value} {rows : List (Str × Int)} {a : Addr} {x : Str} {t u : Tok} {n : Int} (h : RowsAre cs vs rows) (hm : (a, tupOf [.str x t, .int n u]) ∈ cs) : RowsAre cs (vs ++ [.ref a]) (rows ++ [(x, n)]) := by
  induction h with
  | nil => exact .cons hm .nil
  | cons h1 _ ih => exact .cons h1 ih
theorem needs_end1 {kn k0 k1 : Addr} {m m0 m1 : Nat} {cs full : List (Addr × Obj)} {K0 : List Str} {K1 : List (Str × Int)} {called : Str} {pvs vs0 vs1 : List Value} {r : Value} (hT : TxtsAre vs0 (addAll K0 (called :: txtsOf pvs))) (hR : RowsAre cs vs1 K1)
    (hK : (if pvs.isEmpty then K1 else addRow K1 (called, ((pvs.length : Nat) : Int))) = K1) (hs : ∀ q ∈ Cells kn k0 k1 m vs0 vs1 m0 m1, q ∈ full) : Give full (NeedsPost kn k0 k1 m cs K0 K1 called pvs r) :=
  give_ (l := Cells kn k0 k1 m vs0 vs1 m0 m1) ⟨vs0, m0, vs1, m1, [], by simp, hT, by rw [hK]; exact hR, fun q hq => nomatch hq⟩ hs
theorem needs_end2 {kn k0 k1 T : Addr} {m m0 m1 : Nat} {cs : List (Addr × Obj)} {K0 : List Str} {K1 : List (Str × Int)} {called : Str} {v : Value} {pr vs0 vs1 : List Value} {r : Value} {t u : Tok} (hT : TxtsAre vs0 (addAll K0 (called :: txtsOf (v :: pr)))) (hR : RowsAre cs vs1 K1)
    (hK : (called, (((v :: pr).length : Nat) : Int)) ∉ K1) (hT2 : @Ne Nat T kn ∧ @Ne Nat T k0 ∧ @Ne Nat T k1) {pa pb : Addr × Obj} :
    Give ((T, tupOf [.str called t, .int ((v :: pr).length : Nat) u]) :: pa :: pb :: Cells kn k0 k1 m vs0 (vs1 ++ [.ref T]) m0 (m1 + 1)) (NeedsPost kn k0 k1 m cs K0 K1 called (v :: pr) r) := by
  refine give_ (l := Cells kn k0 k1 m vs0 (vs1 ++ [.ref T]) m0 (m1 + 1) ++ [(T, tupOf [.str called t, .int ((v :: pr).length : Nat) u])])
    ⟨vs0, m0, vs1 ++ [.ref T], m1 + 1, [(T, tupOf [.str called t, .int ((v :: pr).length : Nat) u])], rfl, hT, ?_, ?_⟩ ?_
  · have e : (if (v :: pr).isEmpty then K1 else addRow K1 (called, (((v :: pr).length : Nat) : Int))) = K1 ++ [(called, (((v :: pr).length : Nat) : Int))] := if_neg hK
    rw [e]
    exact (hR.mono (fun q h => .tail _ h)).push (.head _)
  · intro q hq
    rw [List.mem_singleton.mp hq]
    simp only [List.map_cons, List.map_nil, List.mem_cons, List.not_mem_nil, or_false, not_or]
    exact hT2
  · intro q hq
    rcases List.mem_append.mp hq with h | h
    · exact .tail _ (.tail _ (.tail _ h))
    · rw [List.mem_singleton.mp h]; exact .head _
set_option maxHeartbeats 4000000 in
theorem needs_ok {prog : Program} {w : World} {kn k0 k1 la : Addr} {m n m0 m1 : Nat} {vs0 vs1 pvs : List Value} {K0 : List Str} {K1 : List (Str × Int)} {cs : List (Addr × Obj)} {called : Str} {tc : Tok}
    (e1 : @Ne Nat kn k0) (e2 : @Ne Nat kn k1) (e3 : @Ne Nat k0 k1) (hT : TxtsAre vs0 K0) (hl0 : vs0.length ≤ 900) (hp : PartsOk cs pvs) (hlen : pvs.length ≤ 4) (hcs : PyData.strOk called = true) (hR : RowsAre cs vs1 K1) (hok : ∀ r ∈ K1, PyData.strOk r.1 = true) (hl1 : vs1.length ≤ 900) :
    CallOkR prog w 360 780 (.ref 254) [.ref kn, .str called tc, .ref la] ((la, listOf (List.toArray pvs) n) :: cs) (Cells kn k0 k1 m vs0 vs1 m0 m1) (NeedsPost kn k0 k1 m cs K0 K1 called pvs) := by
  refine CodeOkR.call ?_
  walk_at "CodeOkR"
  k_steps
  refine Halt.mk ?_
  refine LCt.ListComp_T (F₀ := by k_asm) (by with_unfolding_all rfl) (by decide) (by rfl) (by decide) (by rfl) ?_
  k_steps
  (rename Fr _ _ _ _ => F0)
  (rename News _ _ _ _ => N0)
  (rename (∀ p ∈ (la, listOf (List.toArray pvs) n) :: cs, Heap.get? _ p.1 = some p.2) => hro)
  have hla : Heap.get? _ la = some (listOf (List.toArray pvs) n) := hro _ (.head _)
  refine LCt.CompSrcT.base (its := pvs.toArray) rfl F0 N0 ⟨_, hla, rfl, _, rfl⟩ (by rw [List.size_toArray, sizeLine_eq]; omega) ?_
  intro g'
  rw [List.size_toArray]
  have hfl : (pvs.filter isTxt).length ≤ 4 := Nat.le_trans (List.length_filter_le _ _) hlen
  refine compT_filter (items := pvs) isTxt ?_ ?_ pvs.length 0 rfl
  · intro R1 R2 i v I oI C oC D m₂ h tk ys E' hi hC hx F1 N1 off ne h1 h2
    rcases hp.at hi with ⟨x, t, rfl, hxl⟩ | ⟨a, its, rfl, ha⟩
    · k_steps
      exact LCg.CompEnd.intro F1 N1 _ (fun _ h => h) off (.inl ⟨_, hla, rfl, _, rfl⟩) (h1 rfl)
    · k_steps
      refine PySem.IsiPair.tuple_str (o := tupOf its) (F1.keep _ _ (hro _ (.tail _ ha))) rfl ?_
      k_steps
      exact LCg.CompEnd.intro F1 N1 _ (fun _ h => h) off (.inl ⟨_, hla, rfl, _, rfl⟩) (h2 rfl)
  · intro D h tk F1 N1 o1
    refine kmk_add_lit (its := #[.str called tc]) (its2 := (pvs.filter isTxt).toArray) F1 N1 (News.isList N1 (by k_mem)) (News.isList N1 (by k_mem)) rfl ?_ (by rw [sizeLine_eq, List.length_singleton]; show 1 + (pvs.filter isTxt).length ≤ _; omega)
    intro D2 h2 F2 N2 l2
    k_steps
    (rename Fr _ _ _ _ => F3)
    (rename News _ _ _ _ => N3)
    have hoff : ∀ p ∈ [(D2, listOf (Value.str called tc :: pvs.filter isTxt).toArray 0)], p.1 ∉ (Cells kn k0 k1 m vs0 vs1 m0 m1).map (·.1) := off1 (fun p hp => l2 p (.tail _ (.tail _ hp)))
    have hTI : TxtsAre (Value.str called tc :: pvs.filter isTxt) (called :: txtsOf pvs) := .cons _ _ (filter_txts pvs)
    have hln : (called :: txtsOf pvs).length ≤ 5 := by have := txtsOf_len pvs; rw [List.length_cons]; omega
    have hl0' := hT.length
    refine iter_listS (l := D2) (ol := listOf (Value.str called tc :: pvs.filter isTxt).toArray 0) (items := Value.str called tc :: pvs.filter isTxt) (k := 0) (keep := [(D2, listOf (Value.str called tc :: pvs.filter isTxt).toArray 0)]) (foot := Cells kn k0 k1 m vs0 vs1 m0 m1) []
      (fun i F => ∃ vs m', F = Cells kn k0 k1 m vs vs1 m' m1 ∧ TxtsAre vs (addAll K0 ((called :: txtsOf pvs).take i))) rfl (N3 _ (.head _)).1 rfl rfl (.inl (.head _)) F3 (newsPart N3 (fun p hp => ?_)) hoff ⟨vs0, m0, rfl, hT⟩ ?_ ?_
    · rcases List.mem_append.mp hp with h | h
      · rw [List.mem_singleton.mp h]; exact .head _
      · exact .tail _ (.tail _ (.tail _ h))
    · intro i v u foot₁ I o h tk hi hJ ho hk F₁ N₁
      obtain ⟨vs, m', rfl, hTv⟩ := hJ
      obtain ⟨x, t, rfl, hx⟩ := hTI.inv hi
      have hSt := hTv.strs
      have hI := ho _ (.head _)
      have hD := ho _ (.tail _ (.head _))
      have hlv : vs.length ≤ 1000 := by
        have h1 := addAll_len ((called :: txtsOf pvs).take i) K0
        have h2 := List.length_take_le' i (called :: txtsOf pvs)
        have h3 := hTv.length
        omega
      simp only [List.map_cons, List.map_nil, List.mem_cons, List.not_mem_nil, or_false, not_or] at hI hD
      obtain ⟨i1, i2, i3⟩ := hI
      obtain ⟨j1, j2, j3⟩ := hD
      simp only [List.cons_append, List.nil_append] at N₁
      clear N3 F3
      k_steps
      · exact cells_turn1 hx hTv (by assumption) ho (fun y h1 h2 => by simp only [h1, h2, if_false]; rfl)
      · exact cells_turn2 hx hTv (by assumption) ho (fun y h1 h2 => by simp only [h1, h2, if_false]; rfl)
    · intro u foot₁ h tk hJ ho F₁ N₁
      obtain ⟨vs, m', rfl, hTv⟩ := hJ
      rw [List.take_of_length_le (by rw [hTI.length]; exact Nat.le_refl _)] at hTv
      have N₂ := newsPart N₁ (l' := Cells kn k0 k1 m vs vs1 m' m1) (fun p hp => List.mem_append_right _ hp)
      clear N₁
      obtain ⟨ds, hd1, hd2, hd3⟩ := hp.dat
      k_steps
      refine ne_nil (by k_asm) (by k_asm) hro (by k_mem) hd1 hd2 (Nat.le_of_ble_eq_true rfl) ?_
      rcases pvs with _ | ⟨v, r⟩
      · simp only [List.isEmpty_nil, Bool.not_true]
        k_steps
        exact needs_end1 hTv hR rfl (fun _ h => .tail _ h)
      · simp only [List.isEmpty_cons, Bool.not_false]
        k_steps
        refine' len_base ?F ?m ?z ?_
        case F => k_asm
        case m => exact hla
        case z => exact Nat.le_trans hlen (Nat.le_of_ble_eq_true rfl)
        k_steps
        refine' row_notIn ?F ?N (fun p hp => hro p (.tail _ hp)) ?m1 ?m2 hR hok hcs ?u ?_
        case F => k_asm
        case N => k_asm
        case m1 => k_mem
        case m2 => k_mem
        case u => exact Nat.le_of_ble_eq_true rfl
        k_steps
        · exact needs_end1 hTv hR (show addRow K1 _ = K1 from if_pos (by assumption)) (fun _ h => .tail _ (.tail _ h))
        · refine' len_base ?F ?m ?z ?_
          case F => k_asm
          case m => exact hla
          case z => exact Nat.le_trans hlen (Nat.le_of_ble_eq_true rfl)
          k_steps
          (rename (@LT.lt Nat _ _ _ ∧ @LT.lt Nat _ _ _ ∧ @LT.lt Nat _ _ _ ∧ @LT.lt Nat _ _ _ ∧ @LT.lt Nat _ _ _) => hl)
          exact needs_end2 hTv hR (by assumption) ⟨Nat.ne_of_gt hl.2.2.1, Nat.ne_of_gt hl.2.2.2.1, Nat.ne_of_gt hl.2.2.2.2⟩

theorem wreset_D17 : True := by
  w_top off
  exact True.intro
section
variable {prog : Program} {w : World} {A : Around} {E : Value → Shared → Prop} {s : Shared} {g : Heap} {L : Addr} {m : Str → Option Value} {full cs : List (Addr × Obj)} {Q : Value → Shared → Prop}
theorem eq_nil {la D : Addr} {pvs : List Value} {n k : Nat} {ds : List Dat} (F : Fr g L s.heap m) (N : News g L s.heap full) (hro : ∀ p ∈ (la, listOf (List.toArray pvs) n) :: cs, g.get? p.1 = some p.2) (hD : (D, listOf (List.toArray []) k) ∈ full)
    (hd : DatAll cs pvs ds) (hk : ∀ d ∈ ds, kqdOk 6 d = true) (hu : A.units + 64 < cLine) (h : Q (.bool pvs.isEmpty) s) : wpAny (model prog w) A (compareOp .Eq (.ref la) (.ref D)) Q E s := by
  refine kqd_eq (fakeNews (both_get F N hro)) (oa := listOf (List.toArray pvs) n) (List.mem_append_left _ (.head _)) rfl rfl hd (fun p hp => List.mem_append_left _ (.tail _ hp)) (ob := listOf (List.toArray []) k) (n₂ := []) (List.mem_append_right _ hD) rfl rfl DatAll.nil (fun p hp => nomatch hp)
    (fun d hm => kqdOk_up _ _ (kqdOk_up _ _ (hk d hm))) (fun d hm => nomatch hm) hu ?_
  have e : decide (ds = []) = pvs.isEmpty := by
    have hl := hd.length
    cases pvs <;> cases ds <;> simp_all
  rw [e]; exact h
theorem ne_self {a : Addr} {d : Dat} (F : Fr g L s.heap m) (hro : ∀ p ∈ cs, g.get? p.1 = some p.2) (hd : DatIn cs (.ref a) d) (hk : kqdOk 6 d = true) (hu : A.units + 64 < cLine) (h : Q (.bool false) s) : wpAny (model prog w) A (compareOp .NotEq (.ref a) (.ref a)) Q E s := by
  obtain ⟨as, ra⟩ := kqd_in (fakeNews (fun p hp => F.keep _ _ (hro p hp))) 6 hd hk
  have la := kqd_lay 6 d hk
  have sh : SeqAt.shaped (kqdP d) = true := by unfold SeqAt.shaped; rw [la.1, Bool.true_and]; exact decide_eq_true (Nat.le_trans la.2 (by decide))
  refine ne_dataH ra ra sh sh hu ?_
  rw [(kqd_eqv 6 d d 6 hk hk).mpr rfl]; exact h
theorem sub_tup_base {value slice : PySem.Expr} {a : Addr} {its : List Value} {i : Nat} {k : Int} {u : Tok} {x : Value} (F : Fr g L s.heap m) (hl : g.get? a = some (tupOf its)) (hx : its[i]? = some x) (hk : k = (i : Int)) (hi : i < 1000) (h : Q x s)
    (hs : subscripted slice false (.ref a) (.int k u) = operate [.ref a, .int k u] (getItem (.ref a) (.int k u)) := by with_unfolding_all rfl) (hg : ∀ r, letTemporaryGo value (.ref a) r = pure () := by intro _; with_unfolding_all rfl) :
    wpAny (model prog w) A (subscriptTail value slice (.ref a) (.int k u)) Q E s := by
  subst hk
  have hlen := (List.getElem?_eq_some_iff.mp hx).1
  refine item_tupleL (l := its) ⟨_, F.keep _ _ hl, rfl, _, rfl⟩ (by omega) (by omega) (j := i) ?_ hx h hs hg
  have h1 : ¬((i : Int) < 0) := by omega
  have h2 : (0 : Int) ≤ (i : Int) := by omega
  have h3 : (i : Int) < (its.length : Int) := by omega
  simp [seqIndex?, h1, h3]
theorem sub_list_base {value slice : PySem.Expr} {a : Addr} {its : List Value} {n i : Nat} {k : Int} {u : Tok} {x : Value} (F : Fr g L s.heap m) (hl : g.get? a = some (listOf its.toArray n)) (hx : its[i]? = some x) (hk : k = (i : Int)) (hi : i < 1000) (h : Q x s)
    (hs : subscripted slice false (.ref a) (.int k u) = operate [.ref a, .int k u] (getItem (.ref a) (.int k u)) := by with_unfolding_all rfl) (hg : ∀ r, letTemporaryGo value (.ref a) r = pure () := by intro _; with_unfolding_all rfl) :
    wpAny (model prog w) A (subscriptTail value slice (.ref a) (.int k u)) Q E s := by
  subst hk
  exact item_listL (l := its) ⟨_, F.keep _ _ hl, rfl, _, rfl⟩ (by omega) (by omega) (by simpa using hx) h hs hg
theorem len_tup_base {a : Addr} {its : List Value} (F : Fr g L s.heap m) (hl : g.get? a = some (tupOf its)) (hz : its.length ≤ 100000) (h : Q (.int (its.length : Nat) (s.toks + 1)) { s with toks := s.toks + 1 + 1 }) : wpAny (model prog w) A (call (.builtin "len") [.ref a]) Q E s :=
  len_tuple (t := a) (items := its.toArray) ⟨_, F.keep _ _ hl, rfl, _, rfl⟩ (by rw [List.size_toArray]; omega) (by rw [List.size_toArray]; exact h)
end
local macro_rules | `(tactic| walk_at "subscriptTail") => `(tactic| (k_here; (with_reducible show wpAny _ _ (subscriptTail _ _ (Value.ref _) (Value.int _ _)) _ _ _); k_dflt (refine' sub_tup_base ?F ?m ?x ?k ?i ?_; (case F => k_asm); (case m => assumption); (case k => first | exact Int.zero_add _ | exact rfl); (case x => first | exact rfl | assumption); (case i => first | omega | decide))))
local macro_rules | `(tactic| walk_at "call builtin:len") => `(tactic| (k_here; (with_reducible show wpAny _ _ (call (Value.builtin "len") [Value.ref _]) _ _ _); k_dflt (refine' len_base ?F ?m ?z ?_; (case F => k_asm); (case m => assumption); (case z => omega))))
local macro_rules | `(tactic| walk_at "call builtin:len") => `(tactic| (k_here; (with_reducible show wpAny _ _ (call (Value.builtin "len") [Value.ref _]) _ _ _); k_dflt (refine' len_tup_base ?F ?m ?z ?_; (case F => k_asm); (case m => assumption); (case z => omega))))
local macro_rules | `(tactic| walk_at "subscriptTail") => `(tactic| (k_here; (with_reducible show wpAny _ _ (subscriptTail _ _ (Value.ref _) (Value.int _ _)) _ _ _); k_dflt (refine' sub_list_base ?F ?m ?x ?k ?i ?_; (case F => k_asm); (case m => assumption); (case k => first | exact Int.zero_add _ | exact rfl); (case x => first | exact rfl | assumption); (case i => first | omega | decide))))
theorem ArgsOk.at {atoms : List Str} {nw : List (Addr × Obj)} {ps as : List Value} (h : ArgsOk atoms nw ps as) : ∀ {i : Nat} {p : Value}, ps[i]? = some p → ∃ a, as[i]? = some a ∧ ArgOk atoms nw p a := by
  induction h with
  | nil => intro i p e; simp at e
  | @snoc ps as p a h1 h2 ih =>
    intro i q e
    have hl := h1.length
    rcases Nat.lt_or_ge i ps.length with h | h
    · rw [List.getElem?_append_left h] at e
      obtain ⟨a', e1, e2⟩ := ih e
      exact ⟨a', by rw [List.getElem?_append_left (by omega)]; exact e1, e2⟩
    · rw [List.getElem?_append_right h] at e
      have hi : i - ps.length = 0 := by
        have := (List.getElem?_eq_some_iff.mp e).1
        simp at this; omega
      rw [hi] at e
      simp at e; subst e
      exact ⟨a, by rw [List.getElem?_append_right (by omega), show i - as.length = 0 by omega]; rfl, h2⟩
theorem range_small : ∀ n : Nat, n ≤ 40 → Builtin.Range.small 0 (n : Int) 1 = true := by decide +kernel
theorem ne_stored {x y : Str} (h : [x].contains y = false) : y ≠ x := by
  rintro rfl
  simp at h
theorem rangeSize_nat (n : Nat) : Builtin.Range.rangeSize 0 (n : Int) 1 = (n : Int) := by
  unfold Builtin.Range.rangeSize
  split <;> simp_all <;> omega
local macro_rules | `(tactic| walk_at "pyIter ref") => `(tactic| (k_here; refine Halt.out ?_))
set_option maxHeartbeats 4000000 in
theorem reads_ok {prog : Program} {w : World} {b dx tx an fs fn la : Addr} {n : Nat} {atoms : List Str} {funs : List (List Int)} {pvs : List Value} {symf cs : List (Addr × Obj)} {called : Str} {tc : Tok} {fv : Value}
    (hS : SymS prog w b dx tx an fs fn atoms funs symf) (hl1 : atoms.length ≤ 1000) (hl2 : funs.length ≤ 1000) (hp : PartsOk cs pvs) (hlen : pvs.length ≤ 4) (hc : called.length ≤ 100) (hF : FOk atoms funs cs fv called pvs) :
    CallOkR prog w 360 780 (.ref 261) [.ref b, fv, .str called tc, .ref la] ((la, listOf (List.toArray pvs) n) :: cs) symf (fun r foot' => r = .bool true ∧ SymS prog w b dx tx an fs fn atoms funs foot') := by
  refine CodeOkR.call ?_
  have hS0 := hS
  obtain ⟨h1', h2', h3', h4', t1', t2', t3', t4', n', rest', rfl⟩ := symOpen hS
  walk_at "CodeOkR"
  k_steps
  (rename (∀ p ∈ (la, listOf (List.toArray pvs) n) :: cs, Heap.get? _ p.1 = some p.2) => hro)
  have hla : Heap.get? _ la = some (listOf (List.toArray pvs) n) := hro _ (.head _)
  have hroc := fun p hp => hro p (List.mem_cons_of_mem _ hp)
  obtain ⟨ds, hd1, hd2, hd3⟩ := hp.dat
  refine' eq_nil ?F ?N hro ?m hd1 hd2 ?u ?_
  case F => k_asm
  case N => k_asm
  case m => k_mem
  case u => exact Nat.le_of_ble_eq_true rfl
  rcases pvs with _ | ⟨v, r⟩
  · simp only [List.isEmpty_nil]
    obtain ⟨aa, i, t, u, rfl, hm, hi⟩ : ArgOk atoms cs (.str called 0) fv := hF
    have haa : Heap.get? _ aa = some (tupOf [.str "a" t, .int (i : Nat) u]) := hroc _ hm
    k_steps
    refine' Halt.mk (callOk_tail (text_sym_ok hS0 hl1 hi) ?B ?F ?X ?N ?T ?e ?hn rfl rfl rfl rfl ?hd ?hu ?_)
    case B => k_asm
    case F => k_asm
    case X => k_asm
    case N => k_asm
    case T => k_asm
    case hd => exact Nat.le_of_ble_eq_true rfl
    case hu => exact Nat.le_of_ble_eq_true rfl
    case e => walk_at "m_split"
    case hn => walk_at "m_off"
    intro r foot' h' tk' F' N' D' P'
    obtain ⟨⟨t', rfl⟩, hS'⟩ := P'
    k_steps
    exact give_ ⟨by rw [beq_self_eq_true], hS'⟩ (fun _ h => List.mem_append_right _ h)
  · simp only [List.isEmpty_cons]
    obtain ⟨fa, ta, t, u, avs, i, j, rfl, hm1, hm2, hA, hi, hj⟩ := FormalOk.out (show FormalOk atoms funs cs fv called (v :: r) from hF)
    have hfa : Heap.get? _ fa = some (tupOf [.str "s" t, .int (j : Nat) u, .ref ta]) := hroc _ hm1
    have hta : Heap.get? _ ta = some (tupOf avs) := hroc _ hm2
    have hal := hA.length
    k_steps
    refine' Halt.mk (callOk_tail (label_ok hS0 hl1 hl2 hj hi hc (Nat.le_trans hlen (by decide))) ?B ?F ?X ?N ?T ?e ?hn rfl rfl rfl rfl ?hd ?hu ?_)
    case B => k_asm
    case F => k_asm
    case X => k_asm
    case N => k_asm
    case T => k_asm
    case hd => exact Nat.le_of_ble_eq_true rfl
    case hu => exact Nat.le_of_ble_eq_true rfl
    case e => walk_at "m_split"
    case hn => walk_at "m_off"
    intro r0 foot' h' tk' F' N' D' P'
    obtain ⟨⟨t', rfl⟩, hS'⟩ := P'
    k_steps
    · exfalso
      (rename (_ != _) = true => hx)
      simp at hx
    · exfalso
      (rename Ne (α := Int) _ _ => hx)
      exact hx (by rw [hal])
    · (rename IsRange _ _ _ _ _ _ _ _ => hrg)
      (rename Fr _ _ _ _ => F1)
      (rename News _ _ _ _ => N1)
      refine Halt.mk ?_
      refine iter_rangeS (n := (v :: r).length) (keep := []) (foot := foot') ["told"] (fun _ F => SymS prog w b dx tx an fs fn atoms funs F) rfl hrg ?_ (rangeSize_nat _) F1 (newsPart N1 (fun p hp => List.mem_append_right _ hp)) (List.forall_mem_nil _) hS' ?_ ?_
      · exact range_small _ (Nat.le_trans hlen (by decide))
      · intro i' t3 u3 foot₁ I o h tk hi' hJ ho hk F₁ N₁
        have hJ0 := hJ
        obtain ⟨h1', h2', h3', h4', t1', t2', t3', t4', n', rest', rfl⟩ := symOpen hJ
        obtain ⟨pv, hpv⟩ : ∃ pv, (v :: r)[i']? = some pv := ⟨_, List.getElem?_eq_getElem hi'⟩
        obtain ⟨av, hav, hok⟩ := hA.at hpv
        simp only [List.nil_append] at N₁
        have hI := ho _ (.head _)
        clear N1 F1 hrg
        rcases hp.at hpv with ⟨x, tx', rfl, hxl⟩ | ⟨a, its, rfl, ha⟩
        · obtain ⟨aa, i2, t5, u5, rfl, hm5, hi5⟩ := hok
          have haa : Heap.get? _ aa = some (tupOf [.str "a" t5, .int (i2 : Nat) u5]) := hroc _ hm5
          k_steps
          refine' Halt.mk (callOk_tail (pre := [(I, o)]) (text_sym_ok hJ0 hl1 hi5) ?B ?F ?X ?N ?T ?e ?hn rfl rfl rfl rfl ?hd ?hu ?_)
          case B => k_asm
          case F => k_asm
          case X => k_asm
          case N => k_asm
          case T => k_asm
          case hd => exact Nat.le_of_ble_eq_true rfl
          case hu => exact Nat.le_of_ble_eq_true rfl
          case e => exact rfl
          case hn => exact ho
          intro r0 foot4 h' tk' F' N' D' P'
          obtain ⟨⟨t', rfl⟩, hS4⟩ := P'
          simp only [List.cons_append, List.nil_append] at N'
          k_steps
          · exfalso
            (rename (_ != _) = true => hx)
            simp at hx
          · exact giveT_ (l := foot4) ⟨fun y h1 h2 => by simp only [h1, h2, ne_stored h2, if_false]; rfl, hS4⟩ D' (fun _ h => h)
        · obtain rfl : av = .ref a := hok
          obtain ⟨v', e', hD⟩ := hd1.get (k := i') (by rw [hd3]; exact hi')
          rw [hpv] at e'
          obtain rfl : Value.ref a = v' := Option.some.inj e'
          k_steps
          refine PySem.IsiPair.tuple_str (o := tupOf its) (Fr.keep (by k_asm) _ _ (hroc _ ha)) rfl ?_
          k_steps
          refine' ne_self ?F hroc hD (hd2 _ (List.getElem_mem _)) ?u ?_
          case F => k_asm
          case u => exact Nat.le_of_ble_eq_true rfl
          k_steps
          exact giveT_ ⟨fun y h1 h2 => by simp only [h1, h2, ne_stored h2, if_false]; rfl, hJ0⟩ ho (fun _ h => h)
      · intro u3 foot₁ h tk hJ ho F₁ N₁
        k_steps
        exact give_ ⟨rfl, hJ⟩ (fun _ h => h)

theorem wreset_D18 : True := by
  w_top off
  exact True.intro
section
open PySem.Builtin PySem.Builtin.ObjectAttr
abbrev excTb (C t tb : Addr) (od : Option Addr) : Obj := { cls := .ref C, dict := od, data := .fields #[.ref t, .ref tb, .none, .none, .bool false, .none] }
def TbObj (o : Obj) : Prop := ∃ tvs, o.data = .fields tvs ∧ 3 < tvs.size

theorem raise_inst {prog : Program} {w : World} {A : Around} {E : Value → Shared → Prop} {s : Shared} {env : Env} {x : PySem.Expr} {pos : Pos} {Q : Flow → Shared → Prop} (hh : A.handled = none)
    (h : wpAny (model prog w) A (eval x env) (fun v s₁ => ∃ e t dx, v = .ref e ∧ (hd.heap_39 w.params).In s₁.heap ∧ s₁.heap.get? e = some (excObj 44 t dx) ∧ E (.ref e) s₁) E s) :
    wpAny (model prog w) A (exec (.Raise (some x) none pos) env) Q E s := by
  rw [arm_exec_Raise]
  simp only [evalOpt, Option.map]
  refine wpAny_bind (wpAny_standAt ?_)
  have hcB : (Value.ref 44 :: excMro).contains (.type "BaseException") = true := by decide +kernel
  have hcT : (Value.ref 44 :: excMro).contains (.type "type") = false := by decide +kernel
  unfold raiseStmt
  refine wpAny_bind (wpAny_bind (wpAny_mono h (fun v s₁ h₁ => wpAny_bind (wpAny_standAt (wpAny_pure ?_))) fun _ _ x => x))
  obtain ⟨e, t, dx, rfl, X, he, hE⟩ := h₁
  obtain ⟨hp, g, d, tk, os⟩ := s₁
  have hC := X _ _ (clsExc w)
  have he' : hp.get? e = some { cls := .ref 44, dict := dx, data := .fields #[.ref t, .none, .none, .none, .bool false, .none] } := he
  repeat (first | with_reducible refine wpAny_loadPart_at he' ?_ | with_reducible refine wpAny_loadPart_at hC ?_ | (with_reducible refine wpAny_isSubtype_exc hC ?_; first | rw [hcB] | rw [hcT]) | wp_step)
  exact wpAny_raiseNew_none hh hE

theorem note_exc {M : Model} {A : Around} {E : Value → Shared → Prop} {s : Shared} {env : Env} {g : Heap} {L e t : Addr} {dx : Option Addr} {m : Str → Option Value} {rest : List (Addr × Obj)} {Q : Unit → Shared → Prop}
    (hfr : A.frames = some [env]) (hk : env.scope.kind ≠ .module) (hf : env.frame = some L) (F : Fr g L s.heap m) (N : News g L s.heap ((e, excObj 44 t dx) :: rest)) (hne : ∀ p ∈ rest, p.1 ≠ e)
    (h : ∀ h' tb tbo, Fr g L h' m → News g L h' ((tb, tbo) :: (e, excTb 44 t tb dx) :: rest) → TbObj tbo → (∀ p ∈ (e, excTb 44 t tb dx) :: rest, p.1 ≠ tb) → Q () { s with heap := h' }) :
    wpAny M A (noteFrame (.ref e) env) Q E s := by
  obtain ⟨oL, es, ep, hL, hLd, hLk, hLf⟩ := F.ns
  have he := N _ (.head _)
  have hLe : L ≠ e := Ne.symm he.2.1
  have hfree : oL.isFreed = false := by
    obtain ⟨oc, od, odt, osl⟩ := oL
    cases hLd
    rfl
  refine wpAny_noteFrame_new hk hfr hf hL hfree he.1 hLe rfl rfl fun h' tb oL' pl hpl hkeep hL' hLd' htbn he' htb => ?_
  have hgL : g.get? L = none := Heap.get?_none_of_le F.above
  have hgtb : g.get? tb = none := by
    cases q : g.get? tb with
    | none => rfl
    | some o => have := F.keep _ _ q; rw [htbn] at this; cases this
  have hLtb : tb ≠ L := fun q => by rw [q, hL] at htbn; cases htbn
  obtain ⟨tbo, htbo, hTb⟩ : ∃ tbo, h'.get? tb = some tbo ∧ TbObj tbo := ⟨_, htb, _, rfl, by simp⟩
  refine h h' tb tbo ⟨⟨oL', es, ep, hL', hLd'.trans hLd, hLk, hLf⟩, fun b o q => hkeep b o (fun z => by rw [z, hgL] at q; cases q) (fun z => by rw [z, he.2.2] at q; cases q) (F.keep b o q), F.above⟩ (fun p hp => ?_) hTb (fun p hp q => ?_)
  · rcases List.mem_cons.mp hp with rfl | hp
    · exact ⟨htbo, hLtb, hgtb⟩
    · rcases List.mem_cons.mp hp with rfl | hp
      · exact ⟨he', he.2⟩
      · have z := N p (.tail _ hp)
        exact ⟨hkeep _ _ z.2.1 (hne p hp) z.1, z.2⟩
  · rcases List.mem_cons.mp hp with rfl | hp
    · rw [← q, he.1] at htbn; cases htbn
    · have z := (N p (.tail _ hp)).1
      rw [q, htbn] at z; cases z

theorem flight_none {M : Model} {A : Around} {E : Value → Shared → Prop} {s : Shared} {g : Heap} {L e t tb : Addr} {dx : Option Addr} {m : Str → Option Value} {rest : List (Addr × Obj)} {tbo : Obj} {Q : Unit → Shared → Prop}
    (F : Fr g L s.heap m) (N : News g L s.heap ((tb, tbo) :: (e, excTb 44 t tb dx) :: rest)) (hT : TbObj tbo) (hne : ∀ p ∈ (e, excTb 44 t tb dx) :: rest, p.1 ≠ tb)
    (h : ∀ h' tbo', Fr g L h' m → News g L h' ((tb, tbo') :: (e, excTb 44 t tb dx) :: rest) → TbObj tbo' → Q () { s with heap := h' }) :
    wpAny M A (setFlight (.ref e) none) Q E s := by
  obtain ⟨tvs, hd, hsz⟩ := hT
  have he := N _ (.tail _ (.head _))
  have htb := N _ (.head _)
  obtain ⟨U1, U2⟩ := news_upd (pre := []) (post := (e, excTb 44 t tb dx) :: rest) (f := Obj.mapFields (·.setIfInBounds 3 .none)) F N (fun p hp => nomatch hp) hne rfl (Obj.isFreed_of_fields (Obj.data_mapFields hd (·.setIfInBounds 3 .none)))
  exact wpAny_setFlight_none he.1 rfl rfl htb.1 hd hsz (h _ _ U1 U2 ⟨_, Obj.data_mapFields hd (·.setIfInBounds 3 .none), by simpa using hsz⟩)

theorem clsExc24 (w : World) : (hd.heap_39 w.params).lookup 24 = some (excClassObj "ClausemillError" "ClausemillError" 24 23 [.type "Exception"] [.type "Exception", .type "BaseException", .type "object"] true [] [.ref 44] false none none (some (.ref 15)) none (some (.str "ClausemillError" 189)) (some (.str "ClausemillError" 197)) (some (.bool true)) "Exception.__new__") := by k_is
theorem match_exc {M : Model} {w : World} {A : Around} {E : Value → Shared → Prop} {s : Shared} {e : Addr} {oe : Obj} {Q : Bool → Shared → Prop} (X : (hd.heap_39 w.params).In s.heap) (he : s.heap.get? e = some oe) (hcls : oe.cls = .ref 44)
    (hq : Q true s) : wpAny M A (excMatches (.ref e) (.ref 24)) Q E s := by
  obtain ⟨hp, g, d, tk, os⟩ := s
  have hC := X _ _ (clsExc24 w)
  have hD := X _ _ (clsExc w)
  have hcB : (Value.ref 24 :: [.type "Exception", .type "BaseException", .type "object"]).contains (.type "BaseException") = true := by decide +kernel
  have hcC : (Value.ref 44 :: excMro).contains (.ref 24) = true := by decide +kernel
  have f := tc_notTuple
  unfold excMatches
  repeat (first | (with_reducible refine wpAny_loadPart_at he ?_; rw [hcls]) | with_reducible refine wpAny_loadPart_at hC ?_ | (with_reducible refine wpAny_isSubtype_exc hC ?_; rw [hcB]) | (with_reducible refine wpAny_isSubtype_exc hD ?_; rw [hcC]) | wp_step)
  exact hq

theorem oga_eq (self : Value) (name : Str) (tk : Tok) : ∃ f : Value → Found → Sem Fin, (Builtin.«object.__getattribute__» ⟨[self, .str name tk], []⟩ = (typeOf self >>= fun tp => find self tp name >>= fun r => f tp r)) ∧ ∀ tp v, f tp (.value v) = pure (.done (.ret v)) := by
  unfold Builtin.«object.__getattribute__»
  have e : slotArgs "__getattribute__" 1 ⟨[self, .str name tk], []⟩ = pure (self, [.str name tk]) := by kernel_rfl
  rw [e]
  simp only [pure_bind]
  have e2 : attrName (.str name tk) = pure name := by kernel_rfl
  rw [e2]
  simp only [pure_bind]
  exact ⟨_, rfl, fun _ _ => rfl⟩
theorem ball_get {prog : Program} {w : World} {A : Around} {E : Value → Shared → Prop} {s : Shared} {e : Addr} {oe od : Obj} {v : Value} {expr : Bool} {Q : Value → Shared → Prop} (X : (hd.heap_39 w.params).In s.heap) (I : InstAt s.heap e oe 44 (some od))
    (hga : findIn (hd.heap_39 w.params) (.ref 44) "__getattribute__" = some (some (.builtin "BaseException.__getattribute__"))) (hgt : findIn (hd.heap_39 w.params) (.ref 44) "__getattr__" = some none)
    (hf : findObj (hd.heap_39 w.params) 44 (some od) "ball" = some (.value v)) (hh : handedIn v = true) (hsub : subIn (hd.heap_39 w.params) (.ref 44) (.type "BaseException") = some true) (h : Q v { s with toks := s.toks + 1 }) : wpAny (model prog w) A (getAttr (.ref e) "ball" expr) Q E s := by
  obtain ⟨hp, g, d, tk, os⟩ := s
  have L0 := I.type (M := model prog w)
  have L1 := looks_findIn (M := model prog w) X hga
  have L2 := looks_find (M := model prog w) X I hf
  have L3 := looks_findIn (M := model prog w) X hgt
  have hx2 : (Value.builtin "BaseException.__getattribute__" == Value.builtin "object.__getattribute__") = false := by decide +kernel
  unfold getAttr getAttrBy
  refine wpAny_bind (wpAny_mkText (wpAny_holding (wpAny_bind (L0.at (wpAny_bind (L1.at ?_))))))
  dsimp only
  rw [hx2, Bool.and_false, if_neg (by decide)]
  have FB := PySem.F.attrBase_Exception
  have hk : builtinKind "BaseException.__getattribute__" = some .slot := by decide +kernel
  have hsplit : splitId "BaseException.__getattribute__" = some ("BaseException", "__getattribute__") := by decide +kernel
  have sub : Looks (model prog w) hp (isInstance (.ref e) (.type "BaseException")) true := L0.andThen (looks_subIn X hsub)
  have hx0 : (expr && onTheHeap (Value.builtin "BaseException.__getattribute__")) = false := by cases expr <;> rfl
  unfold getAttrByItsOwn
  refine wpAny_bind (L3.at ?_)
  refine wpAny_bind (wpAny_attempt (wpAny_holding ?_))
  unfold callGetattribute
  rw [hx0, if_neg (by decide)]
  unfold boundAndCalled
  rw [FB.ga.bind]
  refine wpAny_bind (wpAny_pure (wpAny_call (codeAny_call_builtin FB.ga.plain F.entry_bexc_ga ?_)))
  refine @check_slot (model prog w) _ _ ⟨hp, g, d, tk + 1, os⟩ "BaseException.__getattribute__" "BaseException" "__getattribute__" (.ref e) [.str "ball" tk] [] _ hk hsplit sub (F.args_bexc_ga (.ref e) (.str "ball" tk)) ?_
  show wpAny _ _ (Builtin.«object.__getattribute__» ⟨[.ref e, .str "ball" tk], []⟩) _ _ _
  obtain ⟨f, e1, e2⟩ := oga_eq (.ref e) "ball" tk
  rw [e1]
  refine wpAny_bind (L0.at (wpAny_bind (L2.at ?_)))
  rw [e2]
  refine wpAny_pure ?_
  show wpAny _ _ (handedOut v) _ _ _
  rw [handedOut_of hh]; exact wpAny_pure h

end
theorem wreset_D19 : True := by
  w_top off
  exact True.intro
-- the plain law
theorem mem_addAtom {l : List Str} {x y : Str} : y ∈ addAtom l x ↔ y ∈ l ∨ y = x := by
  unfold addAtom
  split
  · rename_i h
    exact ⟨.inl, fun q => q.elim id fun e => e ▸ h⟩
  · simp
theorem nodup_addAtom {l : List Str} {x : Str} (h : l.Nodup) : (addAtom l x).Nodup := by
  unfold addAtom
  split
  · exact h
  · rename_i hx
    rw [List.nodup_append]
    exact ⟨h, by simp, fun a ha b hb e => hx (by rw [List.mem_singleton.mp hb] at e; exact e ▸ ha)⟩
theorem mem_addAll {y : Str} : ∀ {xs l : List Str}, y ∈ addAll l xs ↔ y ∈ l ∨ y ∈ xs
  | [], l => by simp [addAll]
  | x :: r, l => by
    have ih := mem_addAll (y := y) (xs := r) (l := addAtom l x)
    have e : addAll l (x :: r) = addAll (addAtom l x) r := rfl
    rw [e, ih, mem_addAtom, List.mem_cons, or_assoc]
theorem nodup_addAll : ∀ {xs l : List Str}, l.Nodup → (addAll l xs).Nodup
  | [], _, h => h
  | x :: r, l, h => (nodup_addAll (xs := r) (l := addAtom l x) (nodup_addAtom h) : (addAll (addAtom l x) r).Nodup)
theorem addAll_get {x : Str} {i : Nat} : ∀ {xs l : List Str}, l[i]? = some x → (addAll l xs)[i]? = some x
  | [], _, h => h
  | y :: r, l, h => (addAll_get (xs := r) (l := addAtom l y) (addAtom_get h) : (addAll (addAtom l y) r)[i]? = some x)
theorem mem_addFun {l : List (List Int)} {k y : List Int} : y ∈ addFun l k ↔ y ∈ l ∨ y = k := by
  unfold addFun
  split
  · rename_i h
    exact ⟨.inl, fun q => q.elim id fun e => e ▸ h⟩
  · simp
theorem nodup_addFun {l : List (List Int)} {k : List Int} (h : l.Nodup) : (addFun l k).Nodup := by
  unfold addFun
  split
  · exact h
  · rename_i hx
    rw [List.nodup_append]
    exact ⟨h, by simp, fun a ha b hb e => hx (by rw [List.mem_singleton.mp hb] at e; exact e ▸ ha)⟩
theorem addFun_get {l : List (List Int)} {k x : List Int} {i : Nat} (h : l[i]? = some x) : (addFun l k)[i]? = some x := by
  unfold addFun
  split
  · exact h
  · rw [List.getElem?_append_left (List.getElem?_eq_some_iff.mp h).1]; exact h
theorem addFun_len (l : List (List Int)) (k : List Int) : (addFun l k).length ≤ l.length + 1 := by unfold addFun; split <;> simp
theorem mem_addRow {l : List (Str × Int)} {k y : Str × Int} : y ∈ addRow l k ↔ y ∈ l ∨ y = k := by
  unfold addRow
  split
  · rename_i h
    exact ⟨.inl, fun q => q.elim id fun e => e ▸ h⟩
  · simp
theorem nodup_addRow {l : List (Str × Int)} {k : Str × Int} (h : l.Nodup) : (addRow l k).Nodup := by
  unfold addRow
  split
  · exact h
  · rename_i hx
    rw [List.nodup_append]
    exact ⟨h, by simp, fun a ha b hb e => hx (by rw [List.mem_singleton.mp hb] at e; exact e ▸ ha)⟩

/-- the two lists of what is known go with the table -/
structure Sync (atoms : List Str) (funs : List (List Int)) (K0 : List Str) (K1 : List (Str × Int)) : Prop where
  na : atoms.Nodup
  nk : K0.Nodup
  nf : funs.Nodup
  nr : K1.Nodup
  ak : ∀ x, x ∈ K0 ↔ x ∈ atoms
  fr : ∀ f ∈ funs, ∃ (i : Nat) (n : Int) (x : Str), f = [((i : Nat) : Int), n] ∧ atoms[i]? = some x ∧ (x, n) ∈ K1
  rf : ∀ r ∈ K1, ∃ i : Nat, atoms[i]? = some r.1 ∧ [((i : Nat) : Int), r.2] ∈ funs
  ok : ∀ r ∈ K1, PyData.strOk r.1 = true

theorem Sync.len0 {atoms : List Str} {funs : List (List Int)} {K0 : List Str} {K1 : List (Str × Int)} (S : Sync atoms funs K0 K1) : K0.length = atoms.length :=
  ((List.perm_ext_iff_of_nodup S.nk S.na).mpr S.ak).length_eq
theorem Sync.len1 {atoms : List Str} {funs : List (List Int)} {K0 : List Str} {K1 : List (Str × Int)} (S : Sync atoms funs K0 K1) : K1.length = funs.length := by
  have hg : (K1.map fun r => [((atoms.idxOf r.1 : Nat) : Int), r.2]).Nodup := by
    refine List.pairwise_map.mpr (List.Pairwise.imp_of_mem ?_ S.nr)
    intro a b ha hb hne e
    simp only [List.cons.injEq, and_true] at e
    obtain ⟨i, hi, _⟩ := S.rf a ha
    obtain ⟨j, hj, _⟩ := S.rf b hb
    have h1 := idx_of S.na hi
    have h2 := idx_of S.na hj
    have e1 : (atoms.idxOf a.1 : Nat) = atoms.idxOf b.1 := by have := e.1; omega
    rw [← h1, ← h2] at e1
    subst e1
    rw [hi] at hj
    exact hne (Prod.ext (Option.some.inj hj) e.2)
  have hp : (K1.map fun r => [((atoms.idxOf r.1 : Nat) : Int), r.2]).Perm funs := by
    refine (List.perm_ext_iff_of_nodup hg S.nf).mpr fun f => ⟨fun hf => ?_, fun hf => ?_⟩
    · obtain ⟨r, hr, rfl⟩ := List.mem_map.mp hf
      obtain ⟨i, hi, hm⟩ := S.rf r hr
      rw [← idx_of S.na hi]; exact hm
    · obtain ⟨i, n, x, rfl, hi, hm⟩ := S.fr f hf
      refine List.mem_map.mpr ⟨(x, n), hm, ?_⟩
      rw [← idx_of S.na hi]
  have := hp.length_eq
  rwa [List.length_map] at this

theorem Sync.grow {atoms atoms' : List Str} {funs funs' : List (List Int)} {K0 : List Str} {K1 : List (Str × Int)} {called : Str} {pvs : List Value} (S : Sync atoms funs K0 K1) (hG : Grown atoms funs called pvs atoms' funs') (hc : PyData.strOk called = true) :
    Sync atoms' funs' (addAll K0 (called :: txtsOf pvs)) (if pvs.isEmpty then K1 else addRow K1 (called, ((pvs.length : Nat) : Int))) := by
  obtain ⟨rfl, i, hi, rfl⟩ := hG
  have hget : ∀ {j : Nat} {x : Str}, atoms[j]? = some x → (addAtom (addAll atoms (txtsOf pvs)) called)[j]? = some x := fun h => addAtom_get (addAll_get h)
  have hak : ∀ x, x ∈ addAll K0 (called :: txtsOf pvs) ↔ x ∈ addAtom (addAll atoms (txtsOf pvs)) called := fun x => by
    rw [mem_addAll, mem_addAtom, mem_addAll, List.mem_cons, S.ak]
    constructor
    · rintro (h | h | h)
      · exact .inl (.inl h)
      · exact .inr h
      · exact .inl (.inr h)
    · rintro ((h | h) | h)
      · exact .inl h
      · exact .inr (.inr h)
      · exact .inr (.inl h)
  have na := nodup_addAtom (x := called) (nodup_addAll (xs := txtsOf pvs) S.na)
  have nk := nodup_addAll (xs := called :: txtsOf pvs) S.nk
  cases hq : pvs.isEmpty with
  | true =>
    refine ⟨na, nk, S.nf, S.nr, hak, fun f hf => ?_, fun r hr => ?_, S.ok⟩
    · obtain ⟨j, n, x, h1, h2, h3⟩ := S.fr f hf
      exact ⟨j, n, x, h1, hget h2, h3⟩
    · obtain ⟨j, h1, h2⟩ := S.rf r hr
      exact ⟨j, hget h1, h2⟩
  | false =>
    refine ⟨na, nk, nodup_addFun S.nf, nodup_addRow S.nr, hak, fun f hf => ?_, fun r hr => ?_, fun r hr => ?_⟩
    · rcases mem_addFun.mp hf with h | rfl
      · obtain ⟨j, n, x, h1, h2, h3⟩ := S.fr f h
        exact ⟨j, n, x, h1, hget h2, mem_addRow.mpr (.inl h3)⟩
      · exact ⟨i, _, called, rfl, hi, mem_addRow.mpr (.inr rfl)⟩
    · rcases mem_addRow.mp hr with h | rfl
      · obtain ⟨j, h1, h2⟩ := S.rf r h
        exact ⟨j, hget h1, mem_addFun.mpr (.inl h2)⟩
      · exact ⟨i, hi, mem_addFun.mpr (.inr rfl)⟩
    · rcases mem_addRow.mp hr with h | rfl
      · exact S.ok r h
      · exact hc

theorem Grown.lens {atoms atoms' : List Str} {funs funs' : List (List Int)} {called : Str} {pvs : List Value} (hG : Grown atoms funs called pvs atoms' funs') : atoms'.length ≤ atoms.length + pvs.length + 1 ∧ funs'.length ≤ funs.length + 1 := by
  obtain ⟨rfl, i, hi, rfl⟩ := hG
  have h1 := addAtom_len (addAll atoms (txtsOf pvs)) called
  have h2 := addAll_len (txtsOf pvs) atoms
  have h3 := txtsOf_len pvs
  refine ⟨by omega, ?_⟩
  split
  · omega
  · exact addFun_len _ _
theorem Grown.get {atoms atoms' : List Str} {funs funs' : List (List Int)} {called : Str} {pvs : List Value} (hG : Grown atoms funs called pvs atoms' funs') : (∀ (i : Nat) x, atoms[i]? = some x → atoms'[i]? = some x) ∧ ∀ (i : Nat) x, funs[i]? = some x → funs'[i]? = some x := by
  obtain ⟨rfl, i, hi, rfl⟩ := hG
  refine ⟨fun j x h => addAtom_get (addAll_get h), fun j x h => ?_⟩
  split
  · exact h
  · exact addFun_get h

/-- what is made: the formal, its name, the list of its parts -/
def MadeOk (atoms : List Str) (funs : List (List Int)) (ro : List (Addr × Obj)) (mvs : List Value) : Prop :=
  ∀ v ∈ mvs, ∃ mt fv called tc la n pvs, v = .ref mt ∧ (mt, tupOf [fv, .str called tc, .ref la]) ∈ ro ∧ (la, listOf (List.toArray pvs) n) ∈ ro ∧ PartsOk ro pvs ∧ pvs.length ≤ 4 ∧ called.length ≤ 100 ∧ FOk atoms funs ro fv called pvs
theorem MadeOk.mono {atoms atoms' : List Str} {funs funs' : List (List Int)} {ro ro' : List (Addr × Obj)} {mvs : List Value} (h : MadeOk atoms funs ro mvs) (ha : ∀ (i : Nat) x, atoms[i]? = some x → atoms'[i]? = some x) (hf : ∀ (i : Nat) x, funs[i]? = some x → funs'[i]? = some x)
    (hr : ∀ q ∈ ro, q ∈ ro') : MadeOk atoms' funs' ro' mvs := fun v hv => by
  obtain ⟨mt, fv, called, tc, la, n, pvs, h1, h2, h3, h4, h5, h6, h7⟩ := h v hv
  exact ⟨mt, fv, called, tc, la, n, pvs, h1, hr _ h2, hr _ h3, h4.mono hr, h5, h6, h7.mono ha hf hr⟩
theorem MadeOk.push {atoms : List Str} {funs : List (List Int)} {ro : List (Addr × Obj)} {mvs : List Value} {v : Value} (h : MadeOk atoms funs ro mvs)
    (hv : ∃ mt fv called tc la n pvs, v = .ref mt ∧ (mt, tupOf [fv, .str called tc, .ref la]) ∈ ro ∧ (la, listOf (List.toArray pvs) n) ∈ ro ∧ PartsOk ro pvs ∧ pvs.length ≤ 4 ∧ called.length ≤ 100 ∧ FOk atoms funs ro fv called pvs) : MadeOk atoms funs ro (mvs ++ [v]) := fun u hu => by
  rcases List.mem_append.mp hu with h1 | h1
  · exact h u h1
  · rw [List.mem_singleton.mp h1]; exact hv

theorem sync0 : Sync fixedAtoms fixedFuns fixedAtoms fixedRows := by
  have e : fixedFuns = fixedRows.map fun r => [((fixedAtoms.idxOf r.1 : Nat) : Int), r.2] := by decide +kernel
  have m : ∀ r ∈ fixedRows, r.1 ∈ fixedAtoms := by decide +kernel
  have at_ : ∀ x ∈ fixedAtoms, fixedAtoms[fixedAtoms.idxOf x]? = some x := fun x hx => by
    rw [List.getElem?_eq_getElem (List.idxOf_lt_length_of_mem hx)]
    simp
  refine ⟨by decide +kernel, by decide +kernel, by decide +kernel, by decide +kernel, fun _ => Iff.rfl, fun f hf => ?_, fun r hr => ?_, by decide +kernel⟩
  · rw [e] at hf
    obtain ⟨r, hr, rfl⟩ := List.mem_map.mp hf
    exact ⟨_, _, r.1, rfl, at_ _ (m r hr), hr⟩
  · exact ⟨_, at_ _ (m r hr), by rw [e]; exact List.mem_map.mpr ⟨r, hr, rfl⟩⟩

theorem wreset_D20 : True := by
  w_top off
  exact True.intro
section
variable {prog : Program} {w : World} {A : Around} {E : Value → Shared → Prop} {s s₂ : Shared} {env : Env} {h₀ : Heap} {target : PySem.Expr} {body : List Stmt} {Q : Flow → Shared → Prop}
theorem iter_listT {l : Addr} {ol : Obj} {items : List Value} {k : Nat} {m₀ : Str → Option Value} {keep foot : List (Addr × Obj)} (stored : List Str) (J : List (Addr × Obj) → Prop) (hh : A.handled = none)
    (ho : s.heap.get? l = some ol) (hc : ol.cls = .type "list") (hd : ol.data = .seq items.toArray k) (hin : (l, ol) ∈ keep)
    (F : Fr h₀ env.locals s.heap m₀) (N : News h₀ env.locals s.heap (keep ++ foot)) (hoff : ∀ p ∈ keep, p.1 ∉ foot.map (·.1)) (h0 : J foot)
    (turn : ∀ (i : Nat) (v : Value) (u : Str → Option Value) foot₁ I o h tk, items[i]? = some v → J foot₁ → (∀ p ∈ (I, o) :: keep, p.1 ∉ foot₁.map (·.1)) → (∀ p ∈ keep, p.1 ≠ I) → Fr h₀ env.locals h (fun y => if stored.contains y then u y else m₀ y) → News h₀ env.locals h ((I, o) :: (keep ++ foot₁)) →
      wpAny (model prog w) A (assign target env v) (fun _ s₃ => wpAny (model prog w) A (execs body env) (TurnQ h₀ env.locals ((I, o) :: keep) (fun m' foot' => (∀ y, stored.contains y = false → m' y = m₀ y) ∧ J foot') { s with heap := h, toks := tk } Q) E s₃) E { s with heap := h, toks := tk })
    (done : ∀ (u : Str → Option Value) foot₁ h tk, J foot₁ → (∀ p ∈ keep, p.1 ∉ foot₁.map (·.1)) → Fr h₀ env.locals h (fun y => if stored.contains y then u y else m₀ y) → News h₀ env.locals h (keep ++ foot₁) → Q .next { s with heap := h, toks := tk }) :
    wpAny (model prog w) A (pyIter (.ref l)) (fun it s₂ => TurnsAt prog w A h₀ env target body Q E it s₂) E s := by
  have hls : s.heap.IsList l items.toArray := ⟨ol, ho, hc, k, hd⟩
  have hlt : l < s.heap.objs.size := Heap.lt_size ho
  have hne : l ≠ s.heap.objs.size := Nat.ne_of_lt hlt
  have frm : ∀ m : Str → Option Value, (∀ y, stored.contains y = false → m y = m₀ y) → m = fun y => if stored.contains y then m y else m₀ y := fun m hm => by
    funext y
    cases h2 : stored.contains y with
    | true => simp
    | false => simpa using hm y h2
  refine wpAny_pyIter_list hls ?_
  have W := Walks.list (prog := prog) (w := w) hh s.heap.objs.size l hne items.toArray
  have e : items.toArray.size = items.length := by simp
  have hIk : ∀ p ∈ keep, p.1 ≠ s.heap.objs.size := fun p hp => Nat.ne_of_lt (Heap.lt_size (N p (List.mem_append_left _ hp)).1)
  have hIf : ∀ p ∈ foot, p.1 ≠ s.heap.objs.size := fun p hp => Nat.ne_of_lt (Heap.lt_size (N p (List.mem_append_right _ hp)).1)
  have hI₀ : h₀.get? s.heap.objs.size = none := next_is_new F
  refine ⟨s.heap.objs.size, _, [s.heap.objs.size], _, _, _, _, m₀, keep ++ foot, fun i m l => ∃ foot₁, l = keep ++ foot₁ ∧ (∀ p ∈ keep, p.1 ∉ foot₁.map (·.1)) ∧ (∀ p ∈ foot₁, p.1 ≠ s.heap.objs.size) ∧ (∀ y, stored.contains y = false → m y = m₀ y) ∧ J foot₁, rfl,
    KTurns.ofWalks W (fun i v s Q E st q => letGo_listiter st.1 q), ?_, ?_, ?_, ?_, F.push _, (fun p hp => ⟨Heap.get?_push_of_some _ (N p hp).1, (N p hp).2⟩), ⟨foot, rfl, hoff, hIf, fun _ _ => rfl, h0⟩, ?_, ?_⟩
  · intro hm
    rcases List.mem_cons.mp hm with e | hm
    · exact absurd F.ns.lt (e ▸ Nat.lt_irrefl _)
    · exact seq_ne_locals F ho hd (List.mem_singleton.mp hm).symm
  · intro b hb; rw [List.mem_singleton.mp hb]; exact hI₀
  · intro p hp hI
    have e := List.mem_singleton.mp hI
    rcases List.mem_append.mp hp with h | h
    · exact hIk p h e
    · exact hIf p h e
  · exact ⟨⟨_, Heap.get?_push_size _ rfl, rfl, rfl⟩, hls.at fun o e => Heap.get?_push_of_some _ e⟩
  · rintro i v m₁ news₁ h₁ tk₁ own hi hP ⟨foot₁, rfl, hoff₁, hI₁, hm₁, hJ⟩ hnw hsub hget hall st F₁ N₁
    obtain ⟨oI, hoI, _⟩ := st.1
    have hmI : (s.heap.objs.size, oI) ∈ own := hall s.heap.objs.size (List.mem_cons_self ..) hI₀ oI hoI
    have N₂ : News h₀ env.locals h₁ ((s.heap.objs.size, oI) :: (keep ++ foot₁)) := fun p hp => by
      rcases List.mem_cons.mp hp with rfl | hp
      · exact N₁ _ (List.mem_append_left _ hmI)
      · exact N₁ p (List.mem_append_right _ hp)
    have hoff₂ : ∀ p ∈ (s.heap.objs.size, oI) :: keep, p.1 ∉ foot₁.map (·.1) := fun p hp => by
      rcases List.mem_cons.mp hp with rfl | hp
      · intro q
        obtain ⟨r, hr, e⟩ := List.mem_map.mp q
        exact hI₁ r hr e
      · exact hoff₁ p hp
    have fin : ∀ s₃, (∃ h' tk' m' foot', s₃ = { (⟨h₁, s.gens, s.drawn, tk₁, s.os⟩ : Shared) with heap := h', toks := tk' } ∧ Fr h₀ env.locals h' m' ∧ News h₀ env.locals h' ((s.heap.objs.size, oI) :: keep ++ foot') ∧ (∀ p ∈ (s.heap.objs.size, oI) :: keep, p.1 ∉ foot'.map (·.1)) ∧ ((∀ y, stored.contains y = false → m' y = m₀ y) ∧ J foot')) →
        LoopStepU h₀ env.locals [s.heap.objs.size] own (fun m l => ∃ foot₁, l = keep ++ foot₁ ∧ (∀ p ∈ keep, p.1 ∉ foot₁.map (·.1)) ∧ (∀ p ∈ foot₁, p.1 ≠ s.heap.objs.size) ∧ (∀ y, stored.contains y = false → m y = m₀ y) ∧ J foot₁) ⟨h₁, s.gens, s.drawn, tk₁, s.os⟩ .next s₃ := by
      rintro s₃ ⟨h', tk', m', foot', rfl, F', N', ho', hm', hJ'⟩
      have hI' : ∀ p ∈ foot', p.1 ≠ s.heap.objs.size := fun p hp e => ho' _ (.head _) (by show s.heap.objs.size ∈ foot'.map (·.1); rw [← e]; exact List.mem_map_of_mem hp)
      refine LoopStepU.intro (s₁ := ⟨h₁, s.gens, s.drawn, tk₁, s.os⟩) F' (fun p hp => ?_) (fun p hp hb => ?_) ⟨foot', rfl, fun p hp => ho' p (.tail _ hp), hI', hm', hJ'⟩
      · rcases List.mem_append.mp hp with h1 | h1
        · rcases List.mem_cons.mp (hsub p h1) with e | e
          · have h3 : h₁.get? p.1 = some p.2 := hget p h1
            rw [e, hoI] at h3
            have : p = (s.heap.objs.size, oI) := Prod.ext e (Option.some.inj h3).symm
            rw [this]; exact N' _ (.head _)
          · have e' := List.mem_singleton.mp e
            have h2 : h₁.get? p.1 = some p.2 := hget p h1
            have h3 : h₁.get? p.1 = some ol := by rw [e']; exact (N₁ _ (List.mem_append_right _ (List.mem_append_left _ hin))).1
            rw [h2] at h3
            have : p = (l, ol) := Prod.ext e' (Option.some.inj h3)
            rw [this]; exact N' _ (List.mem_append_left _ (.tail _ hin))
        · rcases List.mem_append.mp h1 with h2 | h2
          · exact N' p (List.mem_append_left _ (.tail _ h2))
          · exact N' p (List.mem_append_right _ h2)
      · have e := List.mem_singleton.mp hb
        rcases List.mem_append.mp hp with h1 | h1
        · exact hIk p h1 e
        · exact hI' p h1 e
    have F₁' := F₁
    rw [frm m₁ hm₁] at F₁'
    refine wpAny_mono (turn i v m₁ foot₁ s.heap.objs.size oI h₁ tk₁ (by simpa using hP) hJ hoff₂ hIk F₁' N₂) (fun _ s₃ h₃ => wpAny_mono h₃ (fun f s₄ h₄ => ?_) fun _ _ e => e) fun _ _ e => e
    cases f with
    | ret v => exact .ret h₄
    | brk => exact .brk h₄
    | next => exact .next (fin _ h₄)
    | cont => exact .cont (fin _ h₄)
  · rintro h' tk m' news' F' N' hn ⟨foot₁, rfl, ho₁, _, hm₁, hJ⟩
    rw [frm m' hm₁] at F'
    exact done m' foot₁ h' tk hJ ho₁ F' N'
end

section
variable {prog : Program} {w : World} {A : Around} {E : Value → Shared → Prop} {s : Shared} {g : Heap} {L : Addr} {full : List (Addr × Obj)} {Q : Value → Shared → Prop}
theorem ne_row {a b : Addr} {x : Str} {i : Int} {t u t2 u2 : Tok} (N : News g L s.heap full) (ha : (a, tupOf [.str x t, .int i u]) ∈ full) (hb : (b, tupOf [.str x t2, .int i u2]) ∈ full) (hx : PyData.strOk x = true) (hu : A.units + 64 < cLine) (h : Q (.bool false) s) :
    wpAny (model prog w) A (compareOp .NotEq (.ref a) (.ref b)) Q E s := by
  have hk : kqdOk 8 (rowDat (x, i)) = true := rowDat_ok hx
  obtain ⟨as, ra⟩ := kqd_in N 8 (v := .ref a) (d := rowDat (x, i)) (.tuple ha (.cons (.str _ _) (.cons (.int _ _) .nil))) hk
  obtain ⟨bs, rb⟩ := kqd_in N 8 (v := .ref b) (d := rowDat (x, i)) (.tuple hb (.cons (.str _ _) (.cons (.int _ _) .nil))) hk
  have la := kqd_lay 8 _ hk
  have sh : SeqAt.shaped (kqdP (rowDat (x, i))) = true := by unfold SeqAt.shaped; rw [la.1, Bool.true_and]; exact decide_eq_true (Nat.le_trans la.2 (by decide))
  refine ne_dataH ra rb sh sh hu ?_
  rw [(kqd_eqv 8 _ _ 8 hk hk).mpr rfl]; exact h
end
section
variable {prog : Program} {w : World} {D U : Nat} {fn : Value} {vs : List Value} {ro foot full : List (Addr × Obj)} {Post : Value → List (Addr × Obj) → Prop} {A A₀ : Around} {env : Env} {outer : List Env} {base h₀ : Heap} {L : Addr} {m : Str → Option Value}
  {mean : ExcName → Option Value} {mg mb : Str → Option Value} {s : Shared} {Q E : Value → Shared → Prop}
/-- any order of the ledger -/
theorem callOk_any {rest : List (Addr × Obj)} (C : CallOk prog w D U fn vs foot Post) (B : Below A₀ base outer h₀) (F : Fr h₀ L s.heap m) (X : (hd.heap_39 w.params).In h₀) (N : News h₀ L s.heap full) (T : Top hd.view_39 (looseW hd.view_39 []) mean mg mb h₀)
    (e : ∀ p ∈ rest ++ foot, p ∈ full) (hn : ∀ p ∈ rest, p.1 ∉ foot.map (·.1)) (hA : A.frames = some (env :: outer)) (hf : env.frame = some L) (hke : env.scope.kind = .function) (hh : A.handled = none) (hd : A.depth ≤ D) (hu : A.units ≤ U)
    (k : ∀ r foot' h' tk', Fr h₀ L h' m → News h₀ L h' (rest ++ foot') → (∀ p ∈ rest, p.1 ∉ foot'.map (·.1)) → Post r foot' → Q r { s with heap := h', toks := tk' }) : wpAny (model prog w) A (call fn vs) Q E s :=
  callOk_tail C B F X (newsPart N e) T rfl hn hA hf hke hh hd hu k
theorem callOkR_any {rest : List (Addr × Obj)} (C : CallOkR prog w D U fn vs ro foot Post) (B : Below A₀ base outer h₀) (F : Fr h₀ L s.heap m) (X : (hd.heap_39 w.params).In h₀) (N : News h₀ L s.heap full) (T : Top hd.view_39 (looseW hd.view_39 []) mean mg mb h₀)
    (e : ∀ p ∈ rest ++ foot, p ∈ full) (hn : ∀ p ∈ rest, p.1 ∉ foot.map (·.1)) (hA : A.frames = some (env :: outer)) (hf : env.frame = some L) (hke : env.scope.kind = .function) (hh : A.handled = none) (hd : A.depth ≤ D) (hu : A.units ≤ U) (hr : ∀ p ∈ ro, p ∈ rest)
    (k : ∀ r foot' h' tk', Fr h₀ L h' m → News h₀ L h' (rest ++ foot') → (∀ p ∈ rest, p.1 ∉ foot'.map (·.1)) → Post r foot' → Q r { s with heap := h', toks := tk' }) : wpAny (model prog w) A (call fn vs) Q E s :=
  callOkR_tail C B F X (newsPart N e) T rfl hn hA hf hke hh hd hu (fun p hp => ⟨(N p (e p (List.mem_append_left _ (hr p hp)))).1, hn p (hr p hp)⟩) k
end

theorem wreset_D21 : True := by
  w_top off
  exact True.intro
structure Stat (kn k0 k1 md p nl : Addr) : Prop where
  nd : kn ≠ k0 ∧ kn ≠ k1 ∧ kn ≠ md ∧ kn ≠ p ∧ kn ≠ nl ∧ k0 ≠ k1 ∧ k0 ≠ md ∧ k0 ≠ p ∧ k0 ≠ nl ∧ k1 ≠ md ∧ k1 ≠ p ∧ k1 ≠ nl ∧ md ≠ p ∧ md ≠ nl ∧ p ≠ nl
def Away (kn k0 k1 md p nl : Addr) (rs : List (Addr × Obj)) : Prop := ∀ q ∈ rs, q.1 ≠ kn ∧ q.1 ≠ k0 ∧ q.1 ≠ k1 ∧ q.1 ≠ md ∧ q.1 ≠ p ∧ q.1 ≠ nl
def Off (a b : List (Addr × Obj)) : Prop := ∀ q ∈ a, q.1 ∉ b.map (·.1)

/-- what stands between two rounds -/
def LawAt (prog : Program) (w : World) (b dx tx an fs fn p nl kn k0 k1 md : Addr) (i : Nat) (F : List (Addr × Obj)) : Prop :=
  ∃ atoms funs K0 K1 vs0 m0 vs1 m1 mvs mm ro pl symf, F = (kn, listOf (List.toArray [Value.ref k0, Value.ref k1]) 0) :: (k0, listOf (List.toArray vs0) m0) :: (k1, listOf (List.toArray vs1) m1) :: (md, listOf (List.toArray mvs) mm) :: ((ro ++ symf) ++ pl) ∧
    TxtsAre vs0 K0 ∧ RowsAre ro vs1 K1 ∧ Sync atoms funs K0 K1 ∧ MadeOk atoms funs ro mvs ∧ mvs.length ≤ 2 * i ∧ atoms.length ≤ 40 + 20 * i ∧ funs.length ≤ 40 + 20 * i ∧ PotL p nl pl ∧ SymS prog w b dx tx an fs fn atoms funs symf ∧
    Away kn k0 k1 md p nl (ro ++ symf) ∧ Off ro symf

theorem law_apart {kn k0 k1 md p nl a1 a2 : Addr} {q1 q2 q3 q4 q5 : Obj} {symf pl ex : List (Addr × Obj)} (hP : PotL p nl pl) (hne : @Ne Nat p nl) (o1 : p ∉ symf.map (·.1)) (o2 : nl ∉ symf.map (·.1))
    (hk0 : k0 ∉ ((a1, q1) :: (symf ++ pl)).map (·.1)) (hk1 : k1 ∉ ((a2, q2) :: (ex ++ (k0, q3) :: (a1, q1) :: (symf ++ pl))).map (·.1)) (hkn : kn ∉ ((k1, q4) :: (a2, q2) :: (ex ++ (k0, q3) :: (a1, q1) :: (symf ++ pl))).map (·.1))
    (hmd : md ∉ ((kn, q5) :: (k1, q4) :: (a2, q2) :: (ex ++ (k0, q3) :: (a1, q1) :: (symf ++ pl))).map (·.1)) (D1 : ∀ q ∈ symf ++ pl, q.1 ∉ [(a1, q1)].map (·.1)) (D2 : ∀ q ∈ (k0, q3) :: (a1, q1) :: (symf ++ pl), q.1 ∉ ((a2, q2) :: ex).map (·.1)) :
    Stat kn k0 k1 md p nl ∧ Away kn k0 k1 md p nl (((a2, q2) :: (a1, q1) :: ex) ++ symf) ∧ Off ((a2, q2) :: (a1, q1) :: ex) symf := by
  obtain ⟨⟨oP, hp⟩, oN, hn⟩ := potHas hP
  have hp' : p ∈ pl.map (·.1) := List.mem_map.mpr ⟨_, hp, rfl⟩
  have hn' : nl ∈ pl.map (·.1) := List.mem_map.mpr ⟨_, hn, rfl⟩
  simp only [List.map_cons, List.map_append, List.mem_cons, List.mem_append, not_or] at hk0 hk1 hkn hmd
  have ne_of : ∀ {d : Addr} {l : List (Addr × Obj)}, d ∉ l.map (·.1) → ∀ {x : Addr}, x ∈ l.map (·.1) → d ≠ x := fun h _ hx e => h (e ▸ hx)
  obtain ⟨b1, b2, b3⟩ := hk0
  obtain ⟨c1, c2, c3, c4, c5, c6⟩ := hk1
  obtain ⟨e1, e2, e3, e4, e5, e6, e7⟩ := hkn
  obtain ⟨f1, f2, f3, f4, f5, f6, f7, f8⟩ := hmd
  have inM : ∀ {l : List (Addr × Obj)} {q : Addr × Obj}, q ∈ l → q.1 ∈ l.map (·.1) := fun h => List.mem_map_of_mem h
  have ga2 : ∀ x ∈ (a2, q2) :: ex, ∀ y ∈ (k0, q3) :: (a1, q1) :: (symf ++ pl), x.1 ≠ y.1 := fun x hx y hy e => D2 y hy (e ▸ inM hx)
  have ga1 : ∀ y ∈ symf ++ pl, a1 ≠ y.1 := fun y hy e => D1 y hy (by simp [e])
  refine ⟨⟨e4, e1, (Ne.symm f1), ne_of e7 hp', ne_of e7 hn', (Ne.symm c3), (Ne.symm f5), ne_of b3 hp', ne_of b3 hn', (Ne.symm f2), ne_of c6 hp', ne_of c6 hn', ne_of f8 hp', ne_of f8 hn', hne⟩, ?_, ?_⟩
  · have hA : ∀ x ∈ (a2, q2) :: ex, x.1 ≠ k0 ∧ x.1 ≠ p ∧ x.1 ≠ nl := fun x hx => ⟨ga2 x hx (k0, q3) (.head _), ga2 x hx (p, oP) (by simp [hp]), ga2 x hx (nl, oN) (by simp [hn])⟩
    intro q hq
    rcases List.mem_append.mp hq with h | h
    · rcases List.mem_cons.mp h with rfl | h
      · have z := hA _ (.head _)
        exact ⟨Ne.symm e2, z.1, Ne.symm c1, Ne.symm f3, z.2⟩
      rcases List.mem_cons.mp h with rfl | h
      · exact ⟨Ne.symm e5, Ne.symm b1, Ne.symm c4, Ne.symm f6, ga1 (p, oP) (by simp [hp]), ga1 (nl, oN) (by simp [hn])⟩
      · have z := hA q (.tail _ h)
        exact ⟨(ne_of e3 (inM h)).symm, z.1, (ne_of c2 (inM h)).symm, (ne_of f4 (inM h)).symm, z.2⟩
    · exact ⟨(ne_of e6 (inM h)).symm, (ne_of b2 (inM h)).symm, (ne_of c5 (inM h)).symm, (ne_of f7 (inM h)).symm, fun e => o1 (e ▸ inM h), fun e => o2 (e ▸ inM h)⟩
  · intro q hq hm
    obtain ⟨y, hy, e⟩ := List.mem_map.mp hm
    rcases List.mem_cons.mp hq with rfl | h
    · exact ga2 _ (.head _) y (by simp [hy]) e.symm
    rcases List.mem_cons.mp h with rfl | h
    · exact ga1 y (by simp [hy]) e.symm
    · exact ga2 q (.tail _ h) y (by simp [hy]) e.symm
theorem LawAt.pot {prog : Program} {w : World} {b dx tx an fs fn p nl kn k0 k1 md : Addr} {i : Nat} {F : List (Addr × Obj)} (h : LawAt prog w b dx tx an fs fn p nl kn k0 k1 md i F) (S : Stat kn k0 k1 md p nl) :
    ∃ rest pl, F = rest ++ pl ∧ PotL p nl pl ∧ (∀ q ∈ rest, q.1 ∉ pl.map (·.1)) ∧ ∀ pl', PotL p nl pl' → LawAt prog w b dx tx an fs fn p nl kn k0 k1 md i (rest ++ pl') := by
  obtain ⟨atoms, funs, K0, K1, vs0, m0, vs1, m1, mvs, mm, ro, pl, symf, rfl, h1, h2, h3, h4, h5, h6, h7, h8, h9, h10, h11⟩ := h
  obtain ⟨s1, s2, s3, s4, s5, s6, s7, s8, s9, s10, s11, s12, s13, s14, s15⟩ := S.nd
  refine ⟨(kn, listOf (List.toArray [Value.ref k0, Value.ref k1]) 0) :: (k0, listOf (List.toArray vs0) m0) :: (k1, listOf (List.toArray vs1) m1) :: (md, listOf (List.toArray mvs) mm) :: (ro ++ symf), pl, rfl, h8, ?_,
    fun pl' hP => ⟨atoms, funs, K0, K1, vs0, m0, vs1, m1, mvs, mm, ro, pl', symf, rfl, h1, h2, h3, h4, h5, h6, h7, hP, h9, h10, h11⟩⟩
  refine List.forall_mem_cons.mpr ⟨offPot h8 s4 s5, List.forall_mem_cons.mpr ⟨offPot h8 s8 s9, List.forall_mem_cons.mpr ⟨offPot h8 s11 s12, List.forall_mem_cons.mpr ⟨offPot h8 s13 s14, fun q hq => ?_⟩⟩⟩⟩
  have z := h10 q hq
  exact offPot h8 z.2.2.2.2.1 z.2.2.2.2.2
theorem offPots {p nl : Addr} {pl l : List (Addr × Obj)} (hP : PotL p nl pl) (h : ∀ x ∈ l, x.1 ≠ p ∧ x.1 ≠ nl) : ∀ x ∈ l, x.1 ∉ pl.map (·.1) := fun x hx => offPot hP (h x hx).1 (h x hx).2
theorem ltPots {p nl d : Addr} {pl full : List (Addr × Obj)} (hP : PotL p nl pl) (hs : ∀ q ∈ pl, q ∈ full) (h : ∀ q ∈ full, q.1 < d) : d ≠ p ∧ d ≠ nl := by
  obtain ⟨⟨oP, hp⟩, oN, hn⟩ := potHas hP
  exact ⟨Nat.ne_of_gt (h _ (hs _ hp)), Nat.ne_of_gt (h _ (hs _ hn))⟩
theorem offPots' {p nl d : Addr} {pl : List (Addr × Obj)} (hP : PotL p nl pl) (h : d ∉ pl.map (·.1)) : d ≠ p ∧ d ≠ nl := by
  obtain ⟨⟨oP, hp⟩, oN, hn⟩ := potHas hP
  exact ⟨fun e => h (e ▸ List.mem_map_of_mem hp), fun e => h (e ▸ List.mem_map_of_mem hn)⟩
def lawNames : List Str := ["f", "type_error", "", "error"]
theorem lawNames_ok {x : Str} (h : x ∈ lawNames) : PyData.strOk x = true ∧ x.length ≤ 100 := by
  have : ∀ y ∈ lawNames, PyData.strOk y = true ∧ y.length ≤ 100 := by decide +kernel
  exact this x h
/-- the list of the parts while it grows -/
def InnerJ (la p nl : Addr) (j : Nat) (F : List (Addr × Obj)) : Prop :=
  ∃ pvs n cs pl, F = (la, listOf (List.toArray pvs) n) :: (cs ++ pl) ∧ pvs.length = j ∧ PartsOk cs pvs ∧ PotL p nl pl ∧ (∀ q ∈ cs, q.1 ≠ la ∧ q.1 ≠ p ∧ q.1 ≠ nl)
theorem PartsOk.snoc {cs : List (Addr × Obj)} {vs ws : List Value} (h : PartsOk cs vs) (h2 : PartsOk cs ws) : PartsOk cs (vs ++ ws) := by
  induction h with
  | nil => exact h2
  | txt hx ho _ ih => exact .txt hx ho ih
  | ref hx hd hk _ ih => exact .ref hx hd hk ih
theorem inner_give {la p nl I2 : Addr} {o2 : Obj} {j n : Nat} {pvs : List Value} {v : Value} {keep cs cs2 kc pl : List (Addr × Obj)} {P : Prop} (hkc : kc = keep ++ cs) (hl : pvs.length = j) (hp : PartsOk cs pvs) (hv : PartsOk cs2 [v]) (hP : PotL p nl pl)
    (hcs : ∀ q ∈ cs, q.1 ≠ la ∧ q.1 ≠ p ∧ q.1 ≠ nl) (hcs2 : ∀ q ∈ cs2, q.1 ≠ la ∧ q.1 ≠ p ∧ q.1 ≠ nl) (h1 : ∀ q ∈ (I2, o2) :: keep, q.1 ≠ la ∧ q.1 ≠ p ∧ q.1 ≠ nl) (h2 : ∀ q ∈ (I2, o2) :: keep, q.1 ∉ cs.map (·.1)) (h3 : ∀ q ∈ (I2, o2) :: keep, q.1 ∉ cs2.map (·.1)) (hQ : P) :
    GiveT ((la, listOf (List.toArray (pvs ++ [v])) (n + 1)) :: (I2, o2) :: (kc ++ (cs2 ++ pl))) ((I2, o2) :: keep) (fun F => P ∧ InnerJ la p nl (j + 1) F) := by
  subst hkc
  refine giveT_ (l := (la, listOf (List.toArray (pvs ++ [v])) (n + 1)) :: ((cs ++ cs2) ++ pl)) ⟨hQ, pvs ++ [v], n + 1, cs ++ cs2, pl, rfl, by simp [hl], (hp.mono (fun q h => List.mem_append_left _ h)).snoc (hv.mono (fun q h => List.mem_append_right _ h)), hP,
    fun q hq => (List.mem_append.mp hq).elim (hcs q) (hcs2 q)⟩ ?_ ?_
  · intro q hq hm
    rw [List.map_cons, List.map_append, List.map_append, List.mem_cons, List.mem_append, List.mem_append] at hm
    have z := h1 q hq
    rcases hm with h | (h | h) | h
    · exact z.1 h
    · exact h2 q hq h
    · exact h3 q hq h
    · exact offPot hP z.2.1 z.2.2 h
  · intro q hq
    simp only [List.cons_append, List.mem_cons, List.mem_append] at hq ⊢
    rcases hq with h | h | h | (h | h) | h <;> simp only [h, true_or, or_true]
theorem away_of {kn k0 k1 md p nl : Addr} {l : List (Addr × Obj)} (h1 : kn ∉ l.map (·.1)) (h2 : k0 ∉ l.map (·.1)) (h3 : k1 ∉ l.map (·.1)) (h4 : md ∉ l.map (·.1)) (h5 : p ∉ l.map (·.1)) (h6 : nl ∉ l.map (·.1)) : Away kn k0 k1 md p nl l := fun q hq => by
  have z := List.mem_map_of_mem (f := fun x : Addr × Obj => x.1) hq
  exact ⟨fun e => h1 (e ▸ z), fun e => h2 (e ▸ z), fun e => h3 (e ▸ z), fun e => h4 (e ▸ z), fun e => h5 (e ▸ z), fun e => h6 (e ▸ z)⟩
theorem Away.app {kn k0 k1 md p nl : Addr} {l l' : List (Addr × Obj)} (h : Away kn k0 k1 md p nl l) (h' : Away kn k0 k1 md p nl l') : Away kn k0 k1 md p nl (l ++ l') := fun q hq => (List.mem_append.mp hq).elim (h q) (h' q)
theorem Away.sub {kn k0 k1 md p nl : Addr} {l l' : List (Addr × Obj)} (h : Away kn k0 k1 md p nl l) (hs : ∀ q ∈ l', q ∈ l) : Away kn k0 k1 md p nl l' := fun q hq => h q (hs q hq)
theorem Away.cells {kn k0 k1 md p nl : Addr} {l : List (Addr × Obj)} {m m0 m1 : Nat} {vs0 vs1 : List Value} (h : Away kn k0 k1 md p nl l) : ∀ q ∈ l, q.1 ∉ (Cells kn k0 k1 m vs0 vs1 m0 m1).map (·.1) := fun q hq hm => by
  simp only [List.map_cons, List.map_nil, List.mem_cons, List.not_mem_nil, or_false] at hm
  have z := h q hq
  rcases hm with e | e | e
  · exact z.1 e
  · exact z.2.1 e
  · exact z.2.2.1 e

theorem wreset_D22 : True := by
  w_top off
  exact True.intro
/-- what is told of tuples and lists alone outlives the exception -/
def Plains (cs cs' : List (Addr × Obj)) : Prop := ∀ q ∈ cs, q.2.cls ≠ .ref 44 → q ∈ cs'
theorem Plains.tup {cs cs' : List (Addr × Obj)} (hs : Plains cs cs') {a : Addr} {its : List Value} (h : (a, tupOf its) ∈ cs) : (a, tupOf its) ∈ cs' := hs _ h (fun e => by cases e)
theorem Plains.lst {cs cs' : List (Addr × Obj)} (hs : Plains cs cs') {a : Addr} {its : Array Value} {n : Nat} (h : (a, listOf its n) ∈ cs) : (a, listOf its n) ∈ cs' := hs _ h (fun e => by cases e)
mutual
theorem datIn_plains {cs cs' : List (Addr × Obj)} (hs : Plains cs cs') : ∀ {v : Value} {d : Dat}, DatIn cs v d → DatIn cs' v d
  | _, _, .none => .none
  | _, _, .bool b => .bool b
  | _, _, .int i t => .int i t
  | _, _, .str x t => .str x t
  | _, _, .bytes b t => .bytes b t
  | _, _, .tuple h r => .tuple (hs _ h (fun e => by cases e)) (datAll_plains hs r)
  | _, _, .list h r => .list (hs.lst h) (datAll_plains hs r)
theorem datAll_plains {cs cs' : List (Addr × Obj)} (hs : Plains cs cs') : ∀ {vs : List Value} {ds : List Dat}, DatAll cs vs ds → DatAll cs' vs ds
  | _, _, .nil => .nil
  | _, _, .cons h r => .cons (datIn_plains hs h) (datAll_plains hs r)
end
theorem PartsOk.plains {cs cs' : List (Addr × Obj)} (hs : Plains cs cs') {vs : List Value} (h : PartsOk cs vs) : PartsOk cs' vs := by
  induction h with
  | nil => exact .nil
  | txt hx ho _ ih => exact .txt hx ho ih
  | ref hx hd hk _ ih => exact .ref (hs.tup hx) (datIn_plains hs hd) hk ih
theorem RowsAre.plains {cs cs' : List (Addr × Obj)} (hs : Plains cs cs') {vs : List Value} {rows : List (Str × Int)} (h : RowsAre cs vs rows) : RowsAre cs' vs rows := by
  induction h with
  | nil => exact .nil
  | cons hm _ ih => exact .cons (hs.tup hm) ih
theorem ArgOk.plains {cs cs' : List (Addr × Obj)} (hs : Plains cs cs') {atoms : List Str} {p a : Value} (h : ArgOk atoms cs p a) : ArgOk atoms cs' p a := by
  cases p with
  | str x t => obtain ⟨aa, i, t, u, h1, h2, h3⟩ := h; exact ⟨aa, i, t, u, h1, hs.tup h2, h3⟩
  | _ => exact h
theorem ArgsOk.plains {cs cs' : List (Addr × Obj)} (hs : Plains cs cs') {atoms : List Str} {ps as : List Value} (h : ArgsOk atoms cs ps as) : ArgsOk atoms cs' ps as := by
  induction h with
  | nil => exact .nil
  | snoc _ h ih => exact .snoc ih (h.plains hs)
theorem FormalOk.plains {cs cs' : List (Addr × Obj)} (hs : Plains cs cs') {atoms : List Str} {funs : List (List Int)} {r : Value} {called : Str} {pvs : List Value} (h : FormalOk atoms funs cs r called pvs) : FormalOk atoms funs cs' r called pvs := by
  obtain ⟨fa, ta, t, u, avs, i, j, h1, h2, h3, h4, h5, h6⟩ := h.out
  exact ⟨fa, ta, t, u, avs, i, j, h1, hs.tup h2, hs.tup h3, h4.plains hs, h5, h6⟩
theorem FOk.plains {cs cs' : List (Addr × Obj)} (hs : Plains cs cs') {atoms : List Str} {funs : List (List Int)} {r : Value} {called : Str} {pvs : List Value} (h : FOk atoms funs cs r called pvs) : FOk atoms funs cs' r called pvs := by
  unfold FOk at h ⊢
  split
  · rename_i q; rw [if_pos q] at h; exact h.plains hs
  · rename_i q; rw [if_neg q] at h; exact FormalOk.plains hs h
theorem MadeOk.plains {cs cs' : List (Addr × Obj)} (hs : Plains cs cs') {atoms : List Str} {funs : List (List Int)} {mvs : List Value} (h : MadeOk atoms funs cs mvs) : MadeOk atoms funs cs' mvs := fun v hv => by
  obtain ⟨mt, fv, called, tc, la, n, pvs, h1, h2, h3, h4, h5, h6, h7⟩ := h v hv
  exact ⟨mt, fv, called, tc, la, n, pvs, h1, hs.tup h2, hs.lst h3, h4.plains hs, h5, h6, h7.plains hs⟩

/-- without one address -/
def less (e : Addr) (cs : List (Addr × Obj)) : List (Addr × Obj) := cs.filter fun q => decide (q.1 ≠ e)
theorem mem_less {e : Addr} {cs : List (Addr × Obj)} {q : Addr × Obj} : q ∈ less e cs ↔ q ∈ cs ∧ q.1 ≠ e := by
  unfold less; rw [List.mem_filter, decide_eq_true_eq]
theorem plains_less {g h : Heap} {L e t : Addr} {dx : Option Addr} {full cs : List (Addr × Obj)} (N : News g L h full) (hs : ∀ q ∈ cs, q ∈ full) (he : (e, excObj 44 t dx) ∈ full) : Plains cs (less e cs) := fun q hq hc => by
  refine mem_less.mpr ⟨hq, fun z => hc ?_⟩
  have h1 := (N q (hs q hq)).1
  have h2 := (N _ he).1
  rw [z] at h1
  have h3 : h.get? e = some (excObj 44 t dx) := h2
  rw [h3] at h1
  rw [← Option.some.inj h1]

theorem news_ne {g h : Heap} {L a b : Addr} {full : List (Addr × Obj)} {oa ob : Obj} (N : News g L h full) (ha : (a, oa) ∈ full) (hb : (b, ob) ∈ full) (hc : oa.cls ≠ ob.cls) : a ≠ b := fun e => by
  have h1 := (N _ ha).1
  have h2 : h.get? b = some ob := (N _ hb).1
  rw [show ((a, oa) : Addr × Obj).1 = b from e, h2] at h1
  have h3 : ob = oa := Option.some.inj h1
  exact hc (by rw [h3])
section
variable {prog : Program} {w : World} {A : Around} {E : Value → Shared → Prop} {s : Shared} {name : Str} {scope : Scope} {L a : Addr} {cd : Value} {g : Heap} {m : Str → Option Value} {rest : List (Addr × Obj)} {e t : Addr} {dx : Option Addr}
  {b₀ : Stmt} {suite : List Stmt} {pos np : Pos} {Q : Flow → Shared → Prop} {mg mb : Str → Option Value} {x n : Str} {hs : List ExceptHandler}
/-- the clause that takes the exception, in the frame that raised it -/
theorem caught_law (hfr : A.frames = some [envOf name scope L a cd]) (F : Fr g L s.heap m) (N : News g L s.heap ((e, excObj 44 t dx) :: rest)) (hne : ∀ p ∈ rest, p.1 ≠ e)
    (X : (hd.heap_39 w.params).In g) (T : TopRead hd.view_39 (looseW hd.view_39 []) mg mb g) (hx : nsIn (hd.heap_39 w.params) mainGlobals x = some (some (.ref 24)))
    (k : ∀ Ex h' tb tbo, Fr g L h' (fun y => if y = n then some (.ref e) else m y) → News g L h' ((tb, tbo) :: (e, excTb 44 t tb dx) :: rest) →
      wpAny (model prog w) (A.mark (some (.ref e))) (execs (b₀ :: suite) (envOf name scope L a cd)) (fun f s₄ => wpAny (model prog w) A (do bindName (envOf name scope L a cd) n .none; unbindBehindTheSuite (envOf name scope L a cd) n pos) (fun _ s₅ => Q f s₅) E s₄) Ex { s with heap := h', toks := s.toks + 1 })
    (hk : scope.kind = .function := by rfl) (hl : (envOf name scope L a cd).kindOf n = some .local := by rfl) (hg : (envOf name scope L a cd).kindOf x = some .globalImplicit := by rfl) (hdb : (x == ("__debug__" : Str)) = false := by decide) :
    wpAny (model prog w) A (noteFrame (.ref e) (envOf name scope L a cd)) (fun _ s₂ => wpAny (model prog w) A (setFlight (.ref e) none) (fun _ s₃ => wpAny (model prog w) A (handleBy (.ref e) (envOf name scope L a cd) (.ExceptHandler (some (.Name x np)) (some n) (b₀ :: suite) pos :: hs)) Q E s₃) E s₂) E s := by
  refine note_exc hfr (by rw [show (envOf name scope L a cd).scope.kind = scope.kind from rfl, hk]; decide) rfl F N hne fun h₁ tb tbo F₁ N₁ hT₁ hn₁ => ?_
  refine flight_none F₁ N₁ hT₁ hn₁ fun h₂ tbo₂ F₂ N₂ hT₂ => ?_
  refine wpAny_handleBy_cons (codeAny_handlers_test (name_K F₂ X T hx ?_ hk hg hdb)) (by intro q; cases q)
  refine match_exc (X.keeps F₂.keep) (N₂ _ (.tail _ (.head _))).1 rfl ?_
  refine codeAny_handlers_suite_as ?_
  refine flight_none F₂ N₂ hT₂ hn₁ fun h₃ tbo₃ F₃ N₃ hT₃ => ?_
  refine stN F₃ N₃ (fun h₄ F₄ N₄ => ?_) hk hl
  exact k _ h₄ tb tbo₃ F₄ N₄
end

theorem wreset_law : True := by
  w_top off
  exact True.intro
theorem ne_of_contains {l : List Str} {y z : Str} (h : l.contains y = false) (hz : l.contains z = true) : y ≠ z := fun e => by rw [e, hz] at h; cases h
def StopIf : Prop := True
def PotPost (g : Heap) (L : Addr) (m : Str → Option Value) (s : Shared) (v : Value) (s' : Shared) : Prop :=
  ∃ nl n vs ns h tk, v = .ref nl ∧ s' = { s with heap := h, toks := tk } ∧ Fr g L h m ∧ News g L h [(nl, listOf (List.toArray vs) n)] ∧ IntsAre vs ns ∧ 0 < ns.length ∧ ns.length ≤ 20
theorem pot_split {M : Model} {A : Around} {E : Value → Shared → Prop} {s : Shared} {t : Sem Value} {Q : Value → Shared → Prop} {g : Heap} {L : Addr} {m : Str → Option Value} (_F : Fr g L s.heap m)
    (h1 : wpAny M A t (PotPost g L m s) E s) (h2 : ∀ nl n vs ns h tk, Fr g L h m → News g L h [(nl, listOf (List.toArray vs) n)] → IntsAre vs ns → 0 < ns.length → ns.length ≤ 20 → Q (.ref nl) { s with heap := h, toks := tk }) : wpAny M A t Q E s :=
  wpAny_mono h1 (fun v s' ⟨nl, n, vs, ns, h, tk, e1, e2, F, N, hi, a, b⟩ => by subst e1 e2; exact h2 nl n vs ns h tk F N hi a b) fun _ _ x => x
theorem pot_pack {g h : Heap} {L p nl : Addr} {k : Int} {tk : Tok} {n1 n2 : Nat} {vs : List Value} {ns : List Int} (N : News g L h [(p, listOf (List.toArray [Value.int k tk, Value.ref nl]) n1), (nl, listOf (List.toArray vs) n2)]) (hk : 0 ≤ k) (hi : IntsAre vs ns) (h1 : 0 < ns.length) (h2 : ns.length ≤ 20) (hl : @LT.lt Nat _ nl p) :
    ∃ pl, News g L h pl ∧ PotL p nl pl ∧ @Ne Nat p nl := ⟨_, N, potL_mk hk hi h1 h2, Nat.ne_of_gt hl⟩
local macro_rules | `(tactic| walk_at "call type:list") => `(tactic| (k_here; (with_reducible show wpAny _ _ (call (Value.type _) [Value.ref _]) _ _ _); k_dflt (refine' kup_listOfT ?F ?N ?b ?e ?_ ?z; (case F => k_asm); (case N => k_asm); (case b => exact .head _); (case e => exact rfl); (case z => ((rw [sizeLine_eq]); show List.length _ ≤ _; omega))); intro D' c' h' F' N' l1; have lq := Held.mk l1; (try k_lt l1); (try k_sweep)))
local macro_rules | `(tactic| walk_at "execs cons Assign cons") => `(tactic| walk_at "execs cons")
local macro_rules | `(tactic| walk_at "eval IfExp") => `(tactic| (k_here; (have h9 : StopIf := by assumption); clear h9; refine Halt.out ?_))
local macro_rules | `(tactic| walk_at "exec Try") => `(tactic| (k_here; refine Halt.out ?_))
local macro_rules | `(tactic| walk_at "exec Raise some none") => `(tactic| (k_here; refine Halt.out ?_))
def StopBall : Prop := True
local macro_rules | `(tactic| walk_at "getAttr ref") => `(tactic| (k_here; (have h9 : StopBall := by assumption); clear h9; refine Halt.out ?_))
def RaiseQ (w : World) (E : Value → Shared → Prop) (v : Value) (s₁ : Shared) : Prop := ∃ e t dx, v = .ref e ∧ (hd.heap_39 w.params).In s₁.heap ∧ s₁.heap.get? e = some (excObj 44 t dx) ∧ E (.ref e) s₁
theorem raise_instQ {prog : Program} {w : World} {A : Around} {E : Value → Shared → Prop} {s : Shared} {env : Env} {x : PySem.Expr} {pos : Pos} {Q : Flow → Shared → Prop} (hh : A.handled = none)
    (h : wpAny (model prog w) A (eval x env) (RaiseQ w E) E s) : wpAny (model prog w) A (exec (.Raise (some x) none pos) env) Q E s := raise_inst hh h
def StopApp : Prop := True
local macro_rules | `(tactic| walk_at "call builtin:list.append") => `(tactic| (k_here; (have h9 : StopApp := by assumption); clear h9; refine Halt.out ?_))
local macro_rules | `(tactic| walk_at "getMethod ref") => `(tactic| (k_here; (with_reducible show wpAny _ _ (getMethod (Value.ref _) (PySem.Str.ofString "count") _) _ _ _); k_dflt (refine' method_inst ?k1 ?k2 ?k3 ?k4 ?k5 ?k6 ?k7 ?_; (case k1 => k_asm); (case k2 => k_asm); (case k3 => k_inst); (case k4 => k_is); (case k5 => k_is); (case k6 => k_is); (case k7 => k_get); k_whole)))
local macro_rules | `(tactic| walk_at "callWith ref") => `(tactic| (k_here; (with_reducible show wpAny _ _ (callWith _ _ _ (backTo _ (starEach [] _)) []) _ _ _); k_dflt (refine' callWith_K0 ?k1 ?k2 ?_; (case k1 => exact Frag.In.keeps (by k_asm) (Fr.keep (by with_reducible assumption))); (case k2 => k_is); k_whole)))
def StopMeth : Prop := True
local macro_rules | `(tactic| walk_at "getMethod ref") => `(tactic| (k_here; (have h9 : StopMeth := by assumption); clear h9; refine Halt.out ?_))
set_option maxHeartbeats 16000000 in
theorem law_holds : PySem.Challenge.rw_sa0143_01.Holds := hd (by
  w_strict k_go0
  all_goals try k_fold
  (rename World => w)
  have hst : StopIf := trivial
  k_steps
  clear hst
  (rename Fr _ _ _ _ => F0)
  refine Halt.mk (pot_split F0 ?_ ?_)
  · k_steps
    · (rename Fr _ _ _ _ => Fa)
      (rename News _ _ _ _ => Na)
      (rename IntsAre _ (List.take 20 _) => hIa)
      (rename (List.take 20 _).length = min 20 _ => hca)
      (rename (0 : Int) < _ => hga)
      exact ⟨_, _, _, _, _, _, rfl, rfl, Fa, newsPart Na (fun p hp => by rw [List.mem_singleton.mp hp]; exact .head _), hIa, by omega, by omega⟩
    · (rename Fr _ _ _ _ => Fa)
      (rename News _ _ _ _ => Na)
      exact ⟨_, _, _, _, _, _, rfl, rfl, Fa, newsPart Na (fun p hp => by rw [List.mem_singleton.mp hp]; exact .head _), .cons 0 _ .nil, by decide, by decide⟩
  intro nl n2 pvs pns h1 tk1 F1 N1 hI hl1 hl2
  k_steps
  rename_i p _ _ l1 _ F2 N2
  obtain ⟨pl0, N3, hP0, hne⟩ := pot_pack N2 (Int.le_refl 0) hI hl1 hl2 l1
  clear N2
  refine' Halt.mk (callOk_nil sym_new_ok ?zB ?zF ?zX ?zN ?zT rfl rfl rfl rfl ?zhd ?zhu ?_)
  case zB => k_asm
  case zF => k_asm
  case zX => k_asm
  case zN => k_asm
  case zT => k_asm
  case zhd => exact Nat.le_of_ble_eq_true rfl
  case zhu => exact Nat.le_of_ble_eq_true rfl
  intro r symf0 h' tk' F' N' D' P'
  obtain ⟨b, dx, tx, an, fs, fn, rfl, hS0⟩ := P'
  have o1 : p ∉ symf0.map (·.1) := let ⟨⟨_, h⟩, _⟩ := potHas hP0; D' _ h
  have o2 : nl ∉ symf0.map (·.1) := let ⟨_, _, h⟩ := potHas hP0; D' _ h
  clear N3
  k_steps
  refine' Halt.mk (callOk_nil fixed_atoms_ok ?zB ?zF ?zX ?zN ?zT rfl rfl rfl rfl ?zhd ?zhu ?_)
  case zB => k_asm
  case zF => k_asm
  case zX => k_asm
  case zN => k_asm
  case zT => k_asm
  case zhd => exact Nat.le_of_ble_eq_true rfl
  case zhu => exact Nat.le_of_ble_eq_true rfl
  intro r foot1 h' tk' F' N' D1 P'
  obtain ⟨a1, tvs, rfl, rfl, hTv⟩ := P'
  simp only [List.cons_append, List.nil_append] at N'
  have hln1 : tvs.length = 29 := hTv.length
  k_steps
  refine' Halt.mk (callOk_nil fixed_functors_ok ?zB ?zF ?zX ?zN ?zT rfl rfl rfl rfl ?zhd ?zhu ?_)
  case zB => k_asm
  case zF => k_asm
  case zX => k_asm
  case zN => k_asm
  case zT => k_asm
  case zhd => exact Nat.le_of_ble_eq_true rfl
  case zhu => exact Nat.le_of_ble_eq_true rfl
  intro r foot2 h' tk' F' N' D2 P'
  obtain ⟨a2, rvs, ex, rfl, rfl, hRv, hexc⟩ := P'
  simp only [List.cons_append, List.nil_append] at N'
  have hln2 : rvs.length = 32 := hRv.length
  k_steps
  rename_i k0 c0 _ l0 k1 c1 _ l1' kn _ q1 l2 _ _ md _ q2 l3 _ F3 N3
  obtain ⟨hst, haw, hof⟩ := law_apart (q1 := tupOf tvs) (q2 := tupOf rvs) (q3 := listOf tvs.toArray c0) (q4 := listOf rvs.toArray c1) (q5 := listOf (List.toArray [Value.ref k0, Value.ref k1]) 0) (ex := ex) (a2 := a2) hP0 hne o1 o2 (off_of_lt l0) (off_of_lt l1') (off_of_lt l2) (off_of_lt l3) D1 D2
  obtain ⟨F0, hF0, hL0⟩ : ∃ F0, F0 = (kn, listOf (List.toArray [Value.ref k0, Value.ref k1]) 0) :: (k0, listOf tvs.toArray c0) :: (k1, listOf rvs.toArray c1) :: (md, listOf (List.toArray []) 0) :: ((((a2, tupOf rvs) :: (a1, tupOf tvs) :: ex) ++ symf0) ++ pl0) ∧
      LawAt Challenge.rw_sa0143_01.row.prog w b dx tx an fs fn p nl kn k0 k1 md 0 F0 := ⟨_, rfl, fixedAtoms, fixedFuns, fixedAtoms, fixedRows, tvs, c0, rvs, c1, [], 0, (a2, tupOf rvs) :: (a1, tupOf tvs) :: ex, pl0, symf0, rfl, hTv, hRv.mono (fun q h => List.mem_cons_of_mem _ (List.mem_cons_of_mem _ h)), sync0,
        (fun v hv => nomatch hv), Nat.le_refl _, by decide, by decide, hP0, hS0, haw, hof⟩
  have N4 := newsPart N3 (l' := F0) (fun q hq => by
    rw [hF0] at hq
    simp only [List.cons_append, List.mem_cons, List.mem_append] at hq ⊢
    rcases hq with h | h | h | h | h | h | (h | h) | h <;> simp only [h, true_or, or_true])
  clear N3 q1 q2 l0 l1' l2 l3
  obtain ⟨rest0, plA, rfl, hPA, hoA, hLA⟩ := hL0.pot hst
  refine' Halt.mk (callOk_tail (pre := rest0) (digit_ok hne ?h0 ?hpy hPA) ?zB ?zF ?zX ?zN ?zT ?ze ?zhn rfl rfl rfl rfl ?zhd ?zhu ?_)
  case zB => k_asm
  case zF => k_asm
  case zX => k_asm
  case zN => k_asm
  case zT => k_asm
  case zhd => exact Nat.le_of_ble_eq_true rfl
  case zhu => exact Nat.le_of_ble_eq_true rfl
  case ze => exact rfl
  case h0 => decide +kernel
  case hpy => exact noPy_small (by decide +kernel)
  case zhn => exact hoA
  intro r plB h' tk' F' N' D' P'
  obtain ⟨⟨d0, td, rfl, d1, d2⟩, hPB⟩ := P'
  have hLB := hLA plB hPB
  obtain ⟨d, rfl⟩ := Int.eq_ofNat_of_zero_le d1
  have hdd : Held (d < 4) := ⟨by omega⟩
  clear d1 d2
  k_steps
  (rename IsRange _ _ _ _ _ _ _ _ => hrg)
  (rename (∀ (b : Addr) (o : Obj), Heap.get? _ b = some o → Heap.get? _ b = some o) => hkk)
  clear hkk
  (rename Fr _ _ _ _ => F5)
  (rename News _ _ _ _ => N5)
  have ecast : (1 + (d : Int)) = ((1 + d : Nat) : Int) := by omega
  rw [ecast] at hrg
  refine Halt.mk ?_
  refine iter_rangeS (n := 1 + d) (keep := []) (foot := rest0 ++ plB) ["called", "parts", "formal", "fault", "met", "ball"] (fun i F => LawAt Challenge.rw_sa0143_01.row.prog w b dx tx an fs fn p nl kn k0 k1 md i F) rfl hrg (range_small _ (by have := hdd.out; omega)) (rangeSize_nat _) F5 N5 (List.forall_mem_nil _) hLB ?_ ?_
  · intro i t3 u3 foot₁ I o h tk hi hJ ho hk F₁ N₁
    obtain ⟨atoms, funs, K0, K1, vs0, m0, vs1, m1, mvs, mm, ro, pl, symf, rfl, hT0, hR1, hSy, hMd, hmn, hal, hfl, hP, hS, hAw, hOf⟩ := hJ
    have hi4 : i < 4 := by have := hdd.out; omega
    simp only [List.nil_append] at N₁
    clear hrg F5 N5
    have hI := ho _ (.head _)
    simp only [List.map_cons, List.map_append, List.mem_cons, List.mem_append, not_or] at hI
    obtain ⟨hI1, hI2, hI3, hI4, ⟨hI5, hI6⟩, hI7⟩ := hI
    obtain ⟨s1, s2, s3, s4, s5, s6, s7, s8, s9, s10, s11, s12, s13, s14, s15⟩ := hst.nd
    have hA5 : ∀ x ∈ (I, o) :: (kn, listOf (List.toArray [Value.ref k0, Value.ref k1]) 0) :: (k0, listOf (List.toArray vs0) m0) :: (k1, listOf (List.toArray vs1) m1) :: (md, listOf (List.toArray mvs) mm) :: (ro ++ symf), x.1 ≠ p ∧ x.1 ≠ nl :=
      List.forall_mem_cons.mpr ⟨offPots' hP hI7, List.forall_mem_cons.mpr ⟨⟨s4, s5⟩, List.forall_mem_cons.mpr ⟨⟨s8, s9⟩, List.forall_mem_cons.mpr ⟨⟨s11, s12⟩, List.forall_mem_cons.mpr ⟨⟨s13, s14⟩, fun x hx => (hAw x hx).2.2.2.2⟩⟩⟩⟩⟩
    k_steps
    rename_i q _ _ _ lqq _
    have hq : q ≠ p ∧ q ≠ nl := ltPots hP (fun x hx => by simp only [List.mem_cons, List.mem_append, hx, or_true]) lqq.out
    refine' Halt.mk (callOk_tail (pre := (q, _) :: (I, o) :: (kn, _) :: (k0, _) :: (k1, _) :: (md, _) :: (ro ++ symf)) (digit_ok hne ?h0 ?hpy hP) ?zB ?zF ?zX ?zN ?zT ?ze ?zhn rfl rfl rfl rfl ?zhd ?zhu ?_)
    case zB => k_asm
    case zF => k_asm
    case zX => k_asm
    case zN => k_asm
    case zT => k_asm
    case zhd => exact Nat.le_of_ble_eq_true rfl
    case zhu => exact Nat.le_of_ble_eq_true rfl
    case ze => exact rfl
    case h0 => decide +kernel
    case hpy => exact noPy_small (by decide +kernel)
    case zhn => exact offPots hP (List.forall_mem_cons.mpr ⟨hq, hA5⟩)
    intro r pl1 h' tk' F' N' D' P'
    obtain ⟨⟨x1, tx1, rfl, xa, xb⟩, hP1⟩ := P'
    simp only [List.cons_append] at N'
    refine kba_turn (value' := PySem.Expr.Name (PySem.Str.ofString "_") ⟨0, 0, 0, 0⟩) (fun _ => rfl) ?_
    refine sub_list (fun v => ∃ x t, v = .str x t ∧ x ∈ lawNames) (by k_asm) (by k_mem) (by exact xa) (by exact xb) (by omega) ?_ ?_
    · intro x hx
      simp only [List.mem_cons, List.not_mem_nil, or_false] at hx
      rcases hx with rfl | rfl | rfl | rfl <;> exact ⟨_, _, rfl, by decide⟩
    rintro _ ⟨called, tcl, rfl, hcl⟩
    clear xa xb
    k_steps
    rename_i la _ lqa _ _ _ _
    have hla0 : ∀ x ∈ (I, o) :: (kn, listOf (List.toArray [Value.ref k0, Value.ref k1]) 0) :: (k0, listOf (List.toArray vs0) m0) :: (k1, listOf (List.toArray vs1) m1) :: (md, listOf (List.toArray mvs) mm) :: (ro ++ symf ++ pl1), x.1 < la := fun x hx => lqa.out x (.tail _ hx)
    clear lqa
    have hlap : la ≠ p ∧ la ≠ nl := ltPots hP1 (fun x hx => by simp only [List.mem_cons, List.mem_append, hx, or_true]) hla0
    refine' Halt.mk (callOk_tail (pre := (la, _) :: (q, _) :: (I, o) :: (kn, _) :: (k0, _) :: (k1, _) :: (md, _) :: (ro ++ symf)) (digit_ok hne ?h0 ?hpy hP1) ?zB ?zF ?zX ?zN ?zT ?ze ?zhn rfl rfl rfl rfl ?zhd ?zhu ?_)
    case zB => k_asm
    case zF => k_asm
    case zX => k_asm
    case zN => k_asm
    case zT => k_asm
    case zhd => exact Nat.le_of_ble_eq_true rfl
    case zhu => exact Nat.le_of_ble_eq_true rfl
    case ze => exact rfl
    case h0 => decide +kernel
    case hpy => exact noPy_small (by decide +kernel)
    case zhn => exact offPots hP1 (List.forall_mem_cons.mpr ⟨hlap, List.forall_mem_cons.mpr ⟨hq, hA5⟩⟩)
    intro r pl2 h' tk' F' N' D' P'
    obtain ⟨⟨x2, tx2, rfl, xa, xb⟩, hP2⟩ := P'
    obtain ⟨d2, rfl⟩ := Int.eq_ofNat_of_zero_le xa
    have hd2 : Held (d2 < 4) := ⟨by omega⟩
    clear xa xb
    simp only [List.cons_append] at N'
    have N9 := newsPart N' (l' := (la, listOf (List.toArray []) 0) :: (I, o) :: (kn, listOf (List.toArray [Value.ref k0, Value.ref k1]) 0) :: (k0, listOf (List.toArray vs0) m0) :: (k1, listOf (List.toArray vs1) m1) :: (md, listOf (List.toArray mvs) mm) :: ((ro ++ symf) ++ pl2)) (fun x hx => by
      rcases List.mem_cons.mp hx with h | h
      · rw [h]; exact .head _
      · exact .tail _ (.tail _ h))
    clear N' D'
    k_steps
    (rename IsRange _ _ _ _ _ _ _ _ => hrg)
    (rename (∀ (b : Addr) (o : Obj), Heap.get? _ b = some o → Heap.get? _ b = some o) => hkk)
    clear hkk
    (rename Fr _ _ _ _ => F5)
    (rename News _ _ _ _ => N5)
    have ecast : (1 + (d2 : Int)) = ((1 + d2 : Nat) : Int) := by omega
    rw [ecast] at hrg
    refine Halt.mk ?_
    have hkeep : ∀ x ∈ (I, o) :: (kn, listOf (List.toArray [Value.ref k0, Value.ref k1]) 0) :: (k0, listOf (List.toArray vs0) m0) :: (k1, listOf (List.toArray vs1) m1) :: (md, listOf (List.toArray mvs) mm) :: (ro ++ symf), x.1 ≠ la ∧ x.1 ≠ p ∧ x.1 ≠ nl := fun x hx =>
      ⟨Nat.ne_of_lt (hla0 x (by simp only [List.mem_cons, List.mem_append] at hx ⊢; rcases hx with h | h | h | h | h | h | h <;> simp only [h, true_or, or_true])), hA5 x hx⟩
    obtain ⟨keep, hkE⟩ : ∃ keep, keep = (I, o) :: (kn, listOf (List.toArray [Value.ref k0, Value.ref k1]) 0) :: (k0, listOf (List.toArray vs0) m0) :: (k1, listOf (List.toArray vs1) m1) :: (md, listOf (List.toArray mvs) mm) :: (ro ++ symf) := ⟨_, rfl⟩
    rw [← hkE] at hkeep
    have N6 := newsPart N5 (l' := keep ++ ((la, listOf (List.toArray []) 0) :: ([] ++ pl2))) (fun x hx => by
      rw [hkE] at hx
      simp only [List.cons_append, List.nil_append, List.mem_cons, List.mem_append] at hx ⊢
      rcases hx with h | h | h | h | h | (h | h) | h | h <;> simp only [h, true_or, or_true])
    refine iter_rangeS (n := 1 + d2) (keep := keep) (foot := (la, listOf (List.toArray []) 0) :: ([] ++ pl2)) [] (InnerJ la p nl) rfl hrg (range_small _ (by have := hd2.out; omega)) (rangeSize_nat _) F5 N6 (fun x hx hm => ?_) ⟨[], 0, [], pl2, rfl, rfl, .nil, hP2, fun q hq => nomatch hq⟩ ?_ ?_
    · have z := hkeep x hx
      rcases List.mem_cons.mp hm with h | h
      · exact z.1 h
      · exact offPot hP2 z.2.1 z.2.2 h
    · intro j t4 u4 foot2 I2 o2 h tk hj hJ2 ho2 hk2 F₂ N₂
      obtain ⟨pvs, n, cs, pl, rfl, hpl, hpp, hPj, hcs⟩ := hJ2
      clear hrg F5 N5 N6
      obtain ⟨kc, hkc⟩ : ∃ kc, kc = keep ++ cs := ⟨_, rfl⟩
      have hI2 := ho2 _ (.head _)
      have hk2l : ∀ x ∈ (I2, o2) :: keep, x.1 ≠ la ∧ x.1 ≠ p ∧ x.1 ≠ nl := fun x hx => by
        have z := ho2 x hx
        rw [List.map_cons, List.map_append, List.mem_cons, List.mem_append, not_or, not_or] at z
        exact ⟨z.1, offPots' hPj z.2.2⟩
      have hk2c : ∀ x ∈ (I2, o2) :: keep, x.1 ∉ cs.map (·.1) := fun x hx hm => by
        have z := ho2 x hx
        rw [List.map_cons, List.map_append, List.mem_cons, List.mem_append, not_or, not_or] at z
        exact z.2.1 hm
      have hkcl : ∀ x ∈ kc, x.1 ≠ la ∧ x.1 ≠ p ∧ x.1 ≠ nl := fun x hx => by
        rw [hkc] at hx
        exact (List.mem_append.mp hx).elim (fun h => hk2l x (.tail _ h)) (hcs x)
      have N₃ := newsPart N₂ (l' := (la, listOf (List.toArray pvs) n) :: (I2, o2) :: (kc ++ pl)) (fun x hx => by
        rw [hkc] at hx
        simp only [List.mem_cons, List.mem_append] at hx ⊢
        rcases hx with h | h | (h | h) | h <;> simp only [h, true_or, or_true])
      clear N₂
      have hpvl : pvs.length ≤ 1000 := by have := hd2.out; omega
      have hpre : ∀ x ∈ (la, listOf (List.toArray pvs) n) :: (I2, o2) :: kc, x.1 ≠ p ∧ x.1 ≠ nl := List.forall_mem_cons.mpr ⟨hlap, List.forall_mem_cons.mpr ⟨(hk2l _ (.head _)).2, fun x hx => (hkcl x hx).2⟩⟩
      have hI2l := (hk2l _ (.head _)).1
      clear hI2 ho2 hI7
      k_steps
      refine' Halt.mk (callOk_tail (pre := (la, _) :: (I2, o2) :: kc) (digit_ok hne ?h0 ?hpy hPj) ?zB ?zF ?zX ?zN ?zT ?ze ?zhn rfl rfl rfl rfl ?zhd ?zhu ?_)
      case zB => k_asm
      case zF => k_asm
      case zX => k_asm
      case zN => k_asm
      case zT => k_asm
      case zhd => exact Nat.le_of_ble_eq_true rfl
      case zhu => exact Nat.le_of_ble_eq_true rfl
      case ze => exact rfl
      case h0 => decide +kernel
      case hpy => exact noPy_small (by decide +kernel)
      case zhn => exact offPots hPj hpre
      intro r pl4 h' tk' F' N' D' P'
      obtain ⟨⟨x4, tx4, rfl, xa, xb⟩, hP4⟩ := P'
      clear xa xb D'
      simp only [List.cons_append] at N'
      k_steps
      · skip
        refine' Halt.mk (callOk_tail (pre := (la, _) :: (I2, o2) :: kc) (text_ok hne hP4) ?zB ?zF ?zX ?zN ?zT ?ze ?zhn rfl rfl rfl rfl ?zhd ?zhu ?_)
        case zB => k_asm
        case zF => k_asm
        case zX => k_asm
        case zN => k_asm
        case zT => k_asm
        case zhd => exact Nat.le_of_ble_eq_true rfl
        case zhu => exact Nat.le_of_ble_eq_true rfl
        case ze => exact rfl
        case zhn => exact offPots hP4 hpre
        intro r pl5 h' tk' F' N' D' P'
        obtain ⟨⟨x, tx5, rfl, hx⟩, hP5⟩ := P'
        simp only [List.cons_append] at N'
        clear D'
        have hnela : ∀ x ∈ kc ++ pl5, x.1 ≠ la := fun x hx => (List.mem_append.mp hx).elim (fun h => (hkcl x h).1) fun h e => offPot hP5 hlap.1 hlap.2 (e ▸ List.mem_map_of_mem h)
        k_steps
        exact inner_give (cs2 := []) hkc hpl hpp (.txt (lawTexts_len hx) (lawTexts_ok hx) .nil) hP5 hcs (fun q hq => nomatch hq) hk2l hk2c (fun q _ hm => nomatch hm) (fun y h1 h2 => by simp only [h1, h2, if_false]; rfl)
      · skip
        refine' Halt.mk (callOk_tail (pre := (la, _) :: (I2, o2) :: kc) (culprit_ok hne hP4) ?zB ?zF ?zX ?zN ?zT ?ze ?zhn rfl rfl rfl rfl ?zhd ?zhu ?_)
        case zB => k_asm
        case zF => k_asm
        case zX => k_asm
        case zN => k_asm
        case zT => k_asm
        case zhd => exact Nat.le_of_ble_eq_true rfl
        case zhu => exact Nat.le_of_ble_eq_true rfl
        case ze => exact rfl
        case zhn => exact offPots hP4 hpre
        intro r foot5 h' tk' F' N' D' P'
        obtain ⟨a, its, dt, cs5, pl5, rfl, rfl, hca, hDa, hka, hcl5, hP5⟩ := P'
        simp only [List.cons_append] at N'
        have hD5 : ∀ x ∈ (la, listOf (List.toArray pvs) n) :: (I2, o2) :: kc, x.1 ∉ cs5.map (·.1) := off_sub D' (fun q h => List.mem_append_left _ h)
        have hc5 : ∀ x ∈ cs5, x.1 ≠ la ∧ x.1 ≠ p ∧ x.1 ≠ nl := fun x hx => ⟨fun e => hD5 _ (.head _) (show la ∈ cs5.map (·.1) from e ▸ List.mem_map_of_mem hx), offPots' hP5 (tupOffPot N' hP5 (fun q h => by simp only [List.mem_cons, List.mem_append, h, true_or, or_true]) (fun q h => by simp only [List.mem_cons, List.mem_append, h, true_or, or_true]) hcl5 x hx)⟩
        have hnela : ∀ x ∈ kc ++ (cs5 ++ pl5), x.1 ≠ la := fun x hx => (List.mem_append.mp hx).elim (fun h => (hkcl x h).1) fun h => (List.mem_append.mp h).elim (fun h => (hc5 x h).1) fun h e => offPot hP5 hlap.1 hlap.2 (e ▸ List.mem_map_of_mem h)
        k_steps
        exact inner_give (cs2 := cs5) hkc hpl hpp (.ref hca hDa hka .nil) hP5 hcs hc5 hk2l hk2c (fun q hq => hD5 q (by
          rw [hkc]
          rcases List.mem_cons.mp hq with h | h
          · rw [h]; exact .tail _ (.head _)
          · exact .tail _ (.tail _ (List.mem_append_left _ h)))) (fun y h1 h2 => by simp only [h1, h2, if_false]; rfl)
    · intro u4 foot2 h tk hJ2 ho2 F₂ N₂
      obtain ⟨pvs, n, cs, pl3, rfl, hpl, hpp, hP3, hcs⟩ := hJ2
      have hpv4 : pvs.length ≤ 4 := by have := hd2.out; omega
      have hsy : ∀ x ∈ symf, x.1 ≠ p ∧ x.1 ≠ nl := fun x hx => (hAw x (List.mem_append_right _ hx)).2.2.2.2
      have hcy : ∀ x ∈ cs, x.1 ∉ symf.map (·.1) := off_sym fun x hx hm => ho2 x (by rw [hkE]; exact .tail _ (.tail _ (.tail _ (.tail _ (.tail _ (List.mem_append_right _ hx)))))) (by rw [List.map_cons, List.map_append]; exact .tail _ (List.mem_append_left _ hm))
      have N₃ := newsPart N₂ (l' := (la, listOf (List.toArray pvs) n) :: (I, o) :: (kn, listOf (List.toArray [Value.ref k0, Value.ref k1]) 0) :: (k0, listOf (List.toArray vs0) m0) :: (k1, listOf (List.toArray vs1) m1) :: (md, listOf (List.toArray mvs) mm) :: ((ro ++ (cs ++ pl3)) ++ symf)) (fun x hx => by
        rw [hkE]
        simp only [List.cons_append, List.mem_cons, List.mem_append] at hx ⊢
        rcases hx with h | h | h | h | h | h | (h | h | h) | h <;> simp only [h, true_or, or_true])
      have hlay : la ∉ symf.map (·.1) := off_of_all fun x hx => hla0 x (by simp only [List.mem_cons, List.mem_append, hx, true_or, or_true])
      have hpy : p ∉ symf.map (·.1) := fun hm => by obtain ⟨x, hx, e⟩ := List.mem_map.mp hm; exact (hsy x hx).1 e
      have hny : nl ∉ symf.map (·.1) := fun hm => by obtain ⟨x, hx, e⟩ := List.mem_map.mp hm; exact (hsy x hx).2 e
      have hknA : ∀ c, (c = kn ∨ c = k0 ∨ c = k1 ∨ c = md) → c ∉ symf.map (·.1) := fun c hc hm => by
        obtain ⟨x, hx, e⟩ := List.mem_map.mp hm
        have z := hAw x (List.mem_append_right _ hx)
        rcases hc with rfl | rfl | rfl | rfl
        · exact z.1 e
        · exact z.2.1 e
        · exact z.2.2.1 e
        · exact z.2.2.2.1 e
      clear N₂ hrg F5 N5 N6 hI7
      k_steps
      rename_i pt _ _ _ lqp _
      have hpty : pt ∉ symf.map (·.1) := off_of_all fun x hx => lqp.out x (by simp only [List.mem_cons, List.mem_append, hx, true_or, or_true])
      have hpreS : ∀ x ∈ (pt, tupOf pvs) :: (la, listOf (List.toArray pvs) n) :: (I, o) :: (kn, listOf (List.toArray [Value.ref k0, Value.ref k1]) 0) :: (k0, listOf (List.toArray vs0) m0) :: (k1, listOf (List.toArray vs1) m1) :: (md, listOf (List.toArray mvs) mm) :: (ro ++ (cs ++ pl3)), x.1 ∉ symf.map (·.1) :=
        List.forall_mem_cons.mpr ⟨hpty, List.forall_mem_cons.mpr ⟨hlay, List.forall_mem_cons.mpr ⟨hI6, List.forall_mem_cons.mpr ⟨hknA _ (.inl rfl), List.forall_mem_cons.mpr ⟨hknA _ (.inr (.inl rfl)), List.forall_mem_cons.mpr ⟨hknA _ (.inr (.inr (.inl rfl))), List.forall_mem_cons.mpr ⟨hknA _ (.inr (.inr (.inr rfl))), fun x hx => (List.mem_append.mp hx).elim (hOf x) fun h => (List.mem_append.mp h).elim (hcy x) (potOff hP3 hpy hny x)⟩⟩⟩⟩⟩⟩⟩
      refine' Halt.mk (callOkR_tail (pre := (pt, tupOf pvs) :: (la, listOf (List.toArray pvs) n) :: (I, o) :: (kn, listOf (List.toArray [Value.ref k0, Value.ref k1]) 0) :: (k0, listOf (List.toArray vs0) m0) :: (k1, listOf (List.toArray vs1) m1) :: (md, listOf (List.toArray mvs) mm) :: (ro ++ (cs ++ pl3))) (formal_of_ok (cs := cs) (called := called) (tc := tcl) (pt := pt) hS (by omega) (by omega) hpp).call ?zB ?zF ?zX ?zN ?zT ?ze ?zhn rfl rfl rfl rfl ?zhd ?zhu ?zhr ?_)
      case zB => k_asm
      case zF => k_asm
      case zX => k_asm
      case zN => k_asm
      case zT => k_asm
      case zhd => exact Nat.le_of_ble_eq_true rfl
      case zhu => exact Nat.le_of_ble_eq_true rfl
      case ze => exact rfl
      case zhn => exact hpreS
      case zhr => exact List.forall_mem_cons.mpr ⟨⟨(News.get (by k_asm) (List.Mem.head _)), hpty⟩, fun x hx => ⟨News.get (by k_asm) (List.mem_cons_of_mem _ (List.mem_cons_of_mem _ (List.mem_cons_of_mem _ (List.mem_cons_of_mem _ (List.mem_cons_of_mem _ (List.mem_cons_of_mem _ (List.mem_cons_of_mem _ (List.mem_append_left _ (List.mem_append_right _ (List.mem_append_left _ hx)))))))))), hcy x hx⟩⟩
      intro r foot3 h' tk' F' N' D3 P'
      obtain ⟨nw, symf3, i3, rfl, hFm, hi3, hdis, hS3⟩ := P'
      simp only [List.cons_append] at N'
      have D3' : ∀ x ∈ (pt, tupOf pvs) :: (la, listOf (List.toArray pvs) n) :: (I, o) :: (kn, listOf (List.toArray [Value.ref k0, Value.ref k1]) 0) :: (k0, listOf (List.toArray vs0) m0) :: (k1, listOf (List.toArray vs1) m1) :: (md, listOf (List.toArray mvs) mm) :: (ro ++ (cs ++ pl3)), x.1 ∉ (nw ++ symf3).map (·.1) := D3
      have hin : ∀ {x : Addr × Obj}, x ∈ ro ++ (cs ++ pl3) → x.1 ∉ (nw ++ symf3).map (·.1) := fun h => D3' _ (.tail _ (.tail _ (.tail _ (.tail _ (.tail _ (.tail _ (.tail _ h)))))))
      have hAn : Away kn k0 k1 md p nl (nw ++ symf3) := away_of (D3' (kn, _) (.tail _ (.tail _ (.tail _ (.head _))))) (D3' (k0, _) (.tail _ (.tail _ (.tail _ (.tail _ (.head _)))))) (D3' (k1, _) (.tail _ (.tail _ (.tail _ (.tail _ (.tail _ (.head _))))))) (D3' (md, _) (.tail _ (.tail _ (.tail _ (.tail _ (.tail _ (.tail _ (.head _))))))))
        (by obtain ⟨⟨oP, hp⟩, _⟩ := potHas hP3; exact hin (x := (p, oP)) (List.mem_append_right _ (List.mem_append_right _ hp))) (by obtain ⟨_, oP, hp⟩ := potHas hP3; exact hin (x := (nl, oP)) (List.mem_append_right _ (List.mem_append_right _ hp)))
      have hIn : I ∉ (nw ++ symf3).map (·.1) := D3' (I, o) (.tail _ (.tail _ (.head _)))
      have hkc2 : ∀ x ∈ keep, x.1 ∉ cs.map (·.1) := fun x hx hm => ho2 x hx (by rw [List.map_cons, List.map_append]; exact .tail _ (List.mem_append_left _ hm))
      have hAc : Away kn k0 k1 md p nl cs := fun x hx => by
        have g : ∀ {y : Addr × Obj}, y ∈ keep → x.1 ≠ y.1 := fun {y} hy e => hkc2 y hy (e ▸ List.mem_map_of_mem hx)
        exact ⟨g (y := (kn, listOf (List.toArray [Value.ref k0, Value.ref k1]) 0)) (by rw [hkE]; exact .tail _ (.head _)), g (y := (k0, listOf (List.toArray vs0) m0)) (by rw [hkE]; exact .tail _ (.tail _ (.head _))), g (y := (k1, listOf (List.toArray vs1) m1)) (by rw [hkE]; exact .tail _ (.tail _ (.tail _ (.head _)))), g (y := (md, listOf (List.toArray mvs) mm)) (by rw [hkE]; exact .tail _ (.tail _ (.tail _ (.tail _ (.head _))))), (hcs x hx).2⟩
      have hIc : I ∉ cs.map (·.1) := hkc2 (I, o) (by rw [hkE]; exact .head _)
      have hAl : Away kn k0 k1 md p nl [(la, listOf (List.toArray pvs) n)] := fun x hx => by
        rw [List.mem_singleton.mp hx]
        have g : ∀ {y : Addr × Obj}, y ∈ (I, o) :: (kn, listOf (List.toArray [Value.ref k0, Value.ref k1]) 0) :: (k0, listOf (List.toArray vs0) m0) :: (k1, listOf (List.toArray vs1) m1) :: (md, listOf (List.toArray mvs) mm) :: (ro ++ symf ++ pl1) → la ≠ y.1 := fun hy => Nat.ne_of_gt (hla0 _ hy)
        exact ⟨g (y := (kn, _)) (.tail _ (.head _)), g (y := (k0, _)) (.tail _ (.tail _ (.head _))), g (y := (k1, _)) (.tail _ (.tail _ (.tail _ (.head _)))), g (y := (md, _)) (.tail _ (.tail _ (.tail _ (.tail _ (.head _))))), hlap⟩
      have hIla : I ≠ la := Nat.ne_of_lt (hla0 (I, o) (.head _))
      obtain ⟨ro2, hro2⟩ : ∃ ro2, ro2 = (la, listOf (List.toArray pvs) n) :: (ro ++ (cs ++ nw)) := ⟨_, rfl⟩
      have hA2 : Away kn k0 k1 md p nl (ro2 ++ symf3) := by
        rw [hro2]
        exact ((hAl.app ((hAw.sub fun q h => List.mem_append_left _ h).app (hAc.app (hAn.sub fun q h => List.mem_append_left _ h)))).app (hAn.sub fun q h => List.mem_append_right _ h) : Away kn k0 k1 md p nl (([(la, listOf (List.toArray pvs) n)] ++ (ro ++ (cs ++ nw))) ++ symf3))
      have hO2 : Off ro2 symf3 := by
        rw [hro2]
        intro x hx
        rcases List.mem_cons.mp hx with rfl | hx
        · exact fun hm => D3' (la, _) (.tail _ (.head _)) (by rw [List.map_append]; exact List.mem_append_right _ hm)
        rcases List.mem_append.mp hx with h | h
        · exact fun hm => hin (List.mem_append_left _ h) (by rw [List.map_append]; exact List.mem_append_right _ hm)
        rcases List.mem_append.mp h with h | h
        · exact fun hm => hin (List.mem_append_right _ (List.mem_append_left _ h)) (by rw [List.map_append]; exact List.mem_append_right _ hm)
        · exact hdis x h
      have hIr2 : I ∉ ro2.map (·.1) := by
        rw [hro2, List.map_cons, List.map_append, List.map_append, List.mem_cons, List.mem_append, List.mem_append, not_or, not_or, not_or]
        exact ⟨hIla, hI5, hIc, fun hm => hIn (by rw [List.map_append]; exact List.mem_append_left _ hm)⟩
      have hIy3 : I ∉ symf3.map (·.1) := fun hm => hIn (by rw [List.map_append]; exact List.mem_append_right _ hm)
      have hIp := hkeep (I, o) (by rw [hkE]; exact .head _)
      have hpp2 : PartsOk ro2 pvs := hpp.mono fun q h => by rw [hro2]; exact .tail _ (List.mem_append_right _ (List.mem_append_left _ h))
      have hR2 : RowsAre ro2 vs1 K1 := hR1.mono fun q h => by rw [hro2]; exact .tail _ (List.mem_append_left _ h)
      have hl0' := hT0.length
      have hl1' := hR1.length
      have hs0' := hSy.len0
      have hs1' := hSy.len1
      k_steps
      (rename News _ _ _ _ => N₄)
      have N₅ := newsPart N₄ (l' := ((I, o) :: (md, listOf (List.toArray mvs) mm) :: (ro2 ++ (pl3 ++ symf3))) ++ Cells kn k0 k1 0 vs0 vs1 m0 m1) (fun x hx => by
        rw [hro2] at hx
        simp only [List.cons_append, List.mem_cons, List.mem_append, List.not_mem_nil, or_false] at hx ⊢
        rcases hx with h | h | h | (((h | h | h) | h | h) | h | h | h) <;> simp only [h, true_or, or_true])
      clear N₄
      have hRest : ∀ x ∈ (I, o) :: (md, listOf (List.toArray mvs) mm) :: (ro2 ++ (pl3 ++ symf3)), x.1 ∉ (Cells kn k0 k1 0 vs0 vs1 m0 m1).map (·.1) := by
        simp only [List.map_cons, List.map_nil, List.mem_cons, List.not_mem_nil, or_false, not_or, List.mem_append]
        rintro x (rfl | rfl | h | h | h)
        · exact ⟨hI1, hI2, hI3⟩
        · exact ⟨Ne.symm s3, Ne.symm s7, Ne.symm s10⟩
        · have z := hA2 x (List.mem_append_left _ h); exact ⟨z.1, z.2.1, z.2.2.1⟩
        · exact ⟨fun e => offPot hP3 s4 s5 (e ▸ List.mem_map_of_mem h), fun e => offPot hP3 s8 s9 (e ▸ List.mem_map_of_mem h), fun e => offPot hP3 s11 s12 (e ▸ List.mem_map_of_mem h)⟩
        · have z := hA2 x (List.mem_append_right _ h); exact ⟨z.1, z.2.1, z.2.2.1⟩
      refine' Halt.mk (callOkR_tail (pre := (I, o) :: (md, listOf (List.toArray mvs) mm) :: (ro2 ++ (pl3 ++ symf3))) (needs_ok (cs := ro2) (la := la) (n := n) s1 s2 s6 hT0 (by omega) hpp2 hpv4 (lawNames_ok hcl).1 hR2 hSy.ok (by omega)) ?zB ?zF ?zX ?zN ?zT ?ze ?zhn rfl rfl rfl rfl ?zhd ?zhu ?zhr ?_)
      case zB => k_asm
      case zF => k_asm
      case zX => k_asm
      case zN => exact N₅
      case zT => k_asm
      case zhd => exact Nat.le_of_ble_eq_true rfl
      case zhu => exact Nat.le_of_ble_eq_true rfl
      case ze => exact rfl
      case zhn => exact hRest
      case zhr => exact List.forall_mem_cons.mpr ⟨⟨(N₅ _ (List.mem_append_left _ (.tail _ (.tail _ (List.mem_append_left _ (by rw [hro2]; exact .head _)))))).1, hRest _ (.tail _ (.tail _ (List.mem_append_left _ (by rw [hro2]; exact .head _))))⟩, fun x hx => ⟨(N₅ _ (List.mem_append_left _ (.tail _ (.tail _ (List.mem_append_left _ hx))))).1, hRest _ (.tail _ (.tail _ (List.mem_append_left _ hx)))⟩⟩
      intro r2 foot4 h' tk' F' N' D4 P'
      obtain ⟨vs0', m0', vs1', m1', new, rfl, hT1, hR3, hoN⟩ := P'
      have D4n : ∀ x ∈ (I, o) :: (md, listOf (List.toArray mvs) mm) :: (ro2 ++ (pl3 ++ symf3)), x.1 ∉ new.map (·.1) := off_sub D4 (fun q h => List.mem_append_right _ h)
      obtain ⟨ro3, hro3⟩ : ∃ ro3, ro3 = new ++ ro2 := ⟨_, rfl⟩
      have hAnw : Away kn k0 k1 md p nl new := by
        have g : ∀ c ∈ [kn, k0, k1], c ∉ new.map (·.1) := fun c hc hm => by
          obtain ⟨x, hx, e⟩ := List.mem_map.mp hm
          have z := hoN x hx
          simp only [List.map_cons, List.map_nil, List.mem_cons, List.not_mem_nil, or_false, not_or] at z hc
          rcases hc with rfl | rfl | rfl
          · exact z.1 e
          · exact z.2.1 e
          · exact z.2.2 e
        refine away_of (g kn (.head _)) (g k0 (.tail _ (.head _))) (g k1 (.tail _ (.tail _ (.head _)))) (D4n (md, _) (.tail _ (.head _))) ?_ ?_
        · obtain ⟨⟨oP, hp⟩, _⟩ := potHas hP3; exact D4n (p, oP) (.tail _ (.tail _ (List.mem_append_right _ (List.mem_append_left _ hp))))
        · obtain ⟨_, oP, hp⟩ := potHas hP3; exact D4n (nl, oP) (.tail _ (.tail _ (List.mem_append_right _ (List.mem_append_left _ hp))))
      have hA3 : Away kn k0 k1 md p nl (ro3 ++ symf3) := by
        rw [hro3]
        exact (hAnw.app (hA2.sub fun q h => List.mem_append_left _ h)).app (hA2.sub fun q h => List.mem_append_right _ h)
      have hO3 : Off ro3 symf3 := by
        rw [hro3]
        intro x hx
        rcases List.mem_append.mp hx with h | h
        · exact off_sym (off_sub (off_sym D4n) (fun q h => .tail _ (.tail _ (List.mem_append_right _ (List.mem_append_right _ h))))|> off_sym) x h
        · exact hO2 x h
      have hIr3 : I ∉ ro3.map (·.1) := by
        rw [hro3, List.map_append, List.mem_append, not_or]
        exact ⟨D4n (I, o) (.head _), hIr2⟩
      have hpp3 : PartsOk ro3 pvs := hpp2.mono fun q h => by rw [hro3]; exact List.mem_append_right _ h
      rw [← hro3] at hR3
      have N₆ := newsPart N' (l' := (I, o) :: (kn, listOf (List.toArray [Value.ref k0, Value.ref k1]) 0) :: (k0, listOf (List.toArray vs0') m0') :: (k1, listOf (List.toArray vs1') m1') :: (md, listOf (List.toArray mvs) mm) :: ((ro3 ++ symf3) ++ pl3)) (fun x hx => by
        rw [hro3] at hx
        simp only [List.cons_append, List.mem_cons, List.mem_append, List.not_mem_nil, or_false] at hx ⊢
        rcases hx with h | h | h | h | h | ((h | h) | h) | h <;> simp only [h, true_or, or_true])
      clear N' D4
      have hmd3 : ∀ x ∈ (ro3 ++ symf3) ++ pl3, x.1 ≠ md := fun x hx => (List.mem_append.mp hx).elim (fun h => (hA3 x h).2.2.2.1) fun h e => offPot hP3 s13 s14 (e ▸ List.mem_map_of_mem h)
      have hmvl : mvs.length ≤ 1000 := by omega
      have hImd : @Ne Nat I md := hI4
      have hknmd : @Ne Nat kn md := s3
      have hk0md : @Ne Nat k0 md := s7
      have hk1md : @Ne Nat k1 md := s10
      k_steps
      rename_i mt _ hmt _ _ F7 N7
      have hpy3 : p ∉ symf3.map (·.1) := fun hm => by obtain ⟨x, hx, e⟩ := List.mem_map.mp hm; exact (hA3 x (List.mem_append_right _ hx)).2.2.2.2.1 e
      have hny3 : nl ∉ symf3.map (·.1) := fun hm => by obtain ⟨x, hx, e⟩ := List.mem_map.mp hm; exact (hA3 x (List.mem_append_right _ hx)).2.2.2.2.2 e
      have hAmt : Away kn k0 k1 md p nl [(mt, tupOf [r, .str called tcl, .ref la])] := fun x hx => by
        rw [List.mem_singleton.mp hx]
        have g : ∀ {y : Addr × Obj}, y ∈ (I, o) :: (kn, listOf (List.toArray [Value.ref k0, Value.ref k1]) 0) :: (k0, listOf (List.toArray vs0') m0') :: (k1, listOf (List.toArray vs1') m1') :: (md, listOf (List.toArray mvs) mm) :: (ro3 ++ symf3 ++ pl3) → mt ≠ y.1 := fun hy => Nat.ne_of_gt (hmt.out _ hy)
        exact ⟨g (y := (kn, _)) (.tail _ (.head _)), g (y := (k0, _)) (.tail _ (.tail _ (.head _))), g (y := (k1, _)) (.tail _ (.tail _ (.tail _ (.head _)))), g (y := (md, _)) (.tail _ (.tail _ (.tail _ (.tail _ (.head _))))), ltPots hP3 (fun x hx => by simp only [List.mem_cons, List.mem_append, hx, or_true]) hmt.out⟩
      have hmty : mt ∉ symf3.map (·.1) := off_of_all fun x hx => hmt.out x (by simp only [List.mem_cons, List.mem_append, hx, true_or, or_true])
      have hImt : I ≠ mt := Nat.ne_of_lt (hmt.out (I, o) (.head _))
      obtain ⟨ro4, hro4⟩ : ∃ ro4, ro4 = (mt, tupOf [r, .str called tcl, .ref la]) :: ro3 := ⟨_, rfl⟩
      have hA4 : Away kn k0 k1 md p nl (ro4 ++ symf3) := by
        rw [hro4]
        exact (hAmt.app hA3 : Away kn k0 k1 md p nl ([(mt, tupOf [r, .str called tcl, .ref la])] ++ (ro3 ++ symf3)))
      have hO4 : Off ro4 symf3 := by
        rw [hro4]
        exact List.forall_mem_cons.mpr ⟨hmty, hO3⟩
      have N₈ := newsPart N7 (l' := ((I, o) :: (kn, listOf (List.toArray [Value.ref k0, Value.ref k1]) 0) :: (k0, listOf (List.toArray vs0') m0') :: (k1, listOf (List.toArray vs1') m1') :: (md, listOf (List.toArray (mvs ++ [.ref mt])) (mm + 1)) :: ro4) ++ (pl3 ++ symf3)) (fun x hx => by
        rw [hro4] at hx
        simp only [List.cons_append, List.mem_cons, List.mem_append] at hx ⊢
        rcases hx with h | h | h | h | h | h | h | h | h <;> simp only [h, true_or, or_true])
      clear N7 hmt
      have hpreE : ∀ x ∈ (I, o) :: (kn, listOf (List.toArray [Value.ref k0, Value.ref k1]) 0) :: (k0, listOf (List.toArray vs0') m0') :: (k1, listOf (List.toArray vs1') m1') :: (md, listOf (List.toArray (mvs ++ [.ref mt])) (mm + 1)) :: ro4, x.1 ∉ (pl3 ++ symf3).map (·.1) := by
        have g : ∀ {c : Addr}, c ≠ p → c ≠ nl → c ∉ symf3.map (·.1) → c ∉ (pl3 ++ symf3).map (·.1) := fun a b d hm => by
          rw [List.map_append] at hm
          exact (List.mem_append.mp hm).elim (offPot hP3 a b) d
        have gy : ∀ {c : Addr}, (∀ x ∈ symf3, x.1 ≠ c) → c ∉ symf3.map (·.1) := fun h hm => by obtain ⟨x, hx, e⟩ := List.mem_map.mp hm; exact h x hx e
        have hz : ∀ x ∈ symf3, _ := fun x hx => hA3 x (List.mem_append_right _ hx)
        refine List.forall_mem_cons.mpr ⟨g hIp.2.1 hIp.2.2 hIy3, List.forall_mem_cons.mpr ⟨g s4 s5 (gy fun x hx => (hz x hx).1), List.forall_mem_cons.mpr ⟨g s8 s9 (gy fun x hx => (hz x hx).2.1), List.forall_mem_cons.mpr ⟨g s11 s12 (gy fun x hx => (hz x hx).2.2.1), List.forall_mem_cons.mpr ⟨g s13 s14 (gy fun x hx => (hz x hx).2.2.2.1), fun x hx => ?_⟩⟩⟩⟩⟩
        have z := hA4 x (List.mem_append_left _ hx)
        exact g z.2.2.2.2.1 z.2.2.2.2.2 (hO4 x hx)
      have hG : Grown atoms funs called pvs (addAtom (addAll atoms (txtsOf pvs)) called) (addFun funs [((i3 : Nat) : Int), ((pvs.length : Nat) : Int)]) := by
        cases pvs with
        | nil => simp at hpl; omega
        | cons v0 r0 => exact grownF hi3
      have hFk : FOk (addAtom (addAll atoms (txtsOf pvs)) called) (addFun funs [((i3 : Nat) : Int), ((pvs.length : Nat) : Int)]) nw r called pvs := by
        cases pvs with
        | nil => simp at hpl; omega
        | cons v0 r0 => exact fokF hFm
      generalize addAtom (addAll atoms (txtsOf pvs)) called = atoms3 at hS3 hG hFk
      generalize addFun funs [((i3 : Nat) : Int), ((pvs.length : Nat) : Int)] = funs3 at hS3 hG hFk
      have hlG := hG.lens
      refine' Halt.mk (callOk_tail (pre := (I, o) :: (kn, listOf (List.toArray [Value.ref k0, Value.ref k1]) 0) :: (k0, listOf (List.toArray vs0') m0') :: (k1, listOf (List.toArray vs1') m1') :: (md, listOf (List.toArray (mvs ++ [.ref mt])) (mm + 1)) :: ro4) (exception_ok hne hP3 hS3 (by omega) (by omega) hpy3 hny3) ?zB ?zF ?zX ?zN ?zT ?ze ?zhn rfl rfl rfl rfl ?zhd ?zhu ?_)
      case zB => k_asm
      case zF => k_asm
      case zX => k_asm
      case zN => exact N₈
      case zT => k_asm
      case zhd => exact Nat.le_of_ble_eq_true rfl
      case zhu => exact Nat.le_of_ble_eq_true rfl
      case ze => exact rfl
      case zhn => exact hpreE
      intro r5 foot5 h' tk' F' N' D5 P'
      obtain ⟨ro5, pl5, symf5, atoms5, funs5, ra, r0, fv5, called5, tc5, la5, n5, pvs5, rfl, rfl, hra5, hla5, hpp5, hpl5, hcl5, hG5, hE5, hK5, hP5, hS5, hro5p, hro5s, hpy5, hny5⟩ := P'
      obtain ⟨ro6, hro6⟩ : ∃ ro6, ro6 = ro4 ++ ro5 := ⟨_, rfl⟩
      have N₉ := newsPart N' (l' := (ra, tupOf [r0, .str called5 tc5, .ref la5]) :: (I, o) :: (kn, listOf (List.toArray [Value.ref k0, Value.ref k1]) 0) :: (k0, listOf (List.toArray vs0') m0') :: (k1, listOf (List.toArray vs1') m1') :: (md, listOf (List.toArray (mvs ++ [.ref mt])) (mm + 1)) :: ((ro6 ++ symf5) ++ pl5)) (fun x hx => by
        rw [hro6] at hx
        simp only [List.cons_append, List.mem_cons, List.mem_append] at hx ⊢
        rcases hx with h | h | h | h | h | h | ((h | h) | h) | h
        · rw [h]; simp only [hra5, true_or, or_true]
        all_goals simp only [h, true_or, or_true])
      clear N' N₈
      have D5' : ∀ x ∈ (I, o) :: (kn, listOf (List.toArray [Value.ref k0, Value.ref k1]) 0) :: (k0, listOf (List.toArray vs0') m0') :: (k1, listOf (List.toArray vs1') m1') :: (md, listOf (List.toArray (mvs ++ [.ref mt])) (mm + 1)) :: ro4, x.1 ∉ (ro5 ++ symf5).map (·.1) := off_sub D5 (fun q h => (List.mem_append.mp h).elim (fun h => List.mem_append_left _ h) fun h => List.mem_append_right _ (List.mem_append_right _ h))
      have hA5n : Away kn k0 k1 md p nl (ro5 ++ symf5) := by
        have hp5 : ∀ q ∈ ro5, q.1 ≠ p ∧ q.1 ≠ nl := fun q hq => offPots' hP5 (hro5p q hq)
        refine away_of (D5' (kn, _) (.tail _ (.head _))) (D5' (k0, _) (.tail _ (.tail _ (.head _)))) (D5' (k1, _) (.tail _ (.tail _ (.tail _ (.head _))))) (D5' (md, _) (.tail _ (.tail _ (.tail _ (.tail _ (.head _)))))) ?_ ?_
        · rw [List.map_append, List.mem_append, not_or]
          exact ⟨fun hm => by obtain ⟨x, hx, e⟩ := List.mem_map.mp hm; exact (hp5 x hx).1 e, hpy5⟩
        · rw [List.map_append, List.mem_append, not_or]
          exact ⟨fun hm => by obtain ⟨x, hx, e⟩ := List.mem_map.mp hm; exact (hp5 x hx).2 e, hny5⟩
      have hA6 : Away kn k0 k1 md p nl (ro6 ++ symf5) := by
        rw [hro6]
        exact ((hA4.sub fun q h => List.mem_append_left _ h).app (hA5n.sub fun q h => List.mem_append_left _ h)).app (hA5n.sub fun q h => List.mem_append_right _ h)
      have hO6 : Off ro6 symf5 := by
        rw [hro6]
        intro x hx
        rcases List.mem_append.mp hx with h | h
        · exact fun hm => D5' x (.tail _ (.tail _ (.tail _ (.tail _ (.tail _ h))))) (by rw [List.map_append]; exact List.mem_append_right _ hm)
        · exact hro5s x h
      have hI5n : I ∉ (ro5 ++ symf5).map (·.1) := D5' (I, o) (.head _)
      rw [List.map_append, List.mem_append, not_or] at hI5n
      have hIr6 : I ∉ ro6.map (·.1) := by
        rw [hro6, List.map_append, List.mem_append, hro4, List.map_cons, List.mem_cons, not_or, not_or]
        exact ⟨⟨hImt, hIr3⟩, hI5n.1⟩
      have hSy3 := hSy.grow hG (lawNames_ok hcl).1
      obtain ⟨K0b, hK0b⟩ : ∃ K, K = addAll K0 (called :: txtsOf pvs) := ⟨_, rfl⟩
      obtain ⟨K1b, hK1b⟩ : ∃ K, K = (if pvs.isEmpty then K1 else addRow K1 (called, ((pvs.length : Nat) : Int))) := ⟨_, rfl⟩
      rw [← hK0b, ← hK1b] at hSy3
      rw [← hK0b] at hT1
      rw [← hK1b] at hR3
      have hR6 : RowsAre ro6 vs1' K1b := hR3.mono fun q h => by rw [hro6, hro4]; exact List.mem_append_left _ (.tail _ h)
      have hpp6 : PartsOk ro6 pvs5 := hpp5.mono fun q h => by rw [hro6]; exact List.mem_append_right _ h
      have hla6 : (la5, listOf (List.toArray pvs5) n5) ∈ ro6 := by rw [hro6]; exact List.mem_append_right _ hla5
      have hlG5 := hG5.lens
      have ht1' := hT1.length
      have ht2' := hR6.length
      have ht3' := hSy3.len0
      have ht4' := hSy3.len1
      k_steps
      (rename News _ _ _ _ => N₄)
      have N₅ := newsPart N₄ (l' := ((I, o) :: (md, listOf (List.toArray (mvs ++ [.ref mt])) (mm + 1)) :: (ro6 ++ (pl5 ++ symf5))) ++ Cells kn k0 k1 0 vs0' vs1' m0' m1') (fun x hx => by
        simp only [List.cons_append, List.mem_cons, List.mem_append, List.not_mem_nil, or_false] at hx ⊢
        rcases hx with h | h | ((h | h | h) | h | h | h) <;> simp only [h, true_or, or_true])
      clear N₄
      have hRest6 : ∀ x ∈ (I, o) :: (md, listOf (List.toArray (mvs ++ [.ref mt])) (mm + 1)) :: (ro6 ++ (pl5 ++ symf5)), x.1 ∉ (Cells kn k0 k1 0 vs0' vs1' m0' m1').map (·.1) := by
        simp only [List.map_cons, List.map_nil, List.mem_cons, List.not_mem_nil, or_false, not_or, List.mem_append]
        rintro x (rfl | rfl | h | h | h)
        · exact ⟨hI1, hI2, hI3⟩
        · exact ⟨Ne.symm s3, Ne.symm s7, Ne.symm s10⟩
        · have z := hA6 x (List.mem_append_left _ h); exact ⟨z.1, z.2.1, z.2.2.1⟩
        · exact ⟨fun e => offPot hP5 s4 s5 (e ▸ List.mem_map_of_mem h), fun e => offPot hP5 s8 s9 (e ▸ List.mem_map_of_mem h), fun e => offPot hP5 s11 s12 (e ▸ List.mem_map_of_mem h)⟩
        · have z := hA6 x (List.mem_append_right _ h); exact ⟨z.1, z.2.1, z.2.2.1⟩
      refine' Halt.mk (callOkR_tail (pre := (I, o) :: (md, listOf (List.toArray (mvs ++ [.ref mt])) (mm + 1)) :: (ro6 ++ (pl5 ++ symf5))) (needs_ok (cs := ro6) (la := la5) (n := n5) s1 s2 s6 hT1 (by omega) hpp6 (Nat.le_succ_of_le hpl5) hcl5.2 hR6 hSy3.ok (by omega)) ?zB ?zF ?zX ?zN ?zT ?ze ?zhn rfl rfl rfl rfl ?zhd ?zhu ?zhr ?_)
      case zB => k_asm
      case zF => k_asm
      case zX => k_asm
      case zN => exact N₅
      case zT => k_asm
      case zhd => exact Nat.le_of_ble_eq_true rfl
      case zhu => exact Nat.le_of_ble_eq_true rfl
      case ze => exact rfl
      case zhn => exact hRest6
      case zhr => exact List.forall_mem_cons.mpr ⟨⟨(N₅ _ (List.mem_append_left _ (.tail _ (.tail _ (List.mem_append_left _ hla6))))).1, hRest6 _ (.tail _ (.tail _ (List.mem_append_left _ hla6)))⟩, fun x hx => ⟨(N₅ _ (List.mem_append_left _ (.tail _ (.tail _ (List.mem_append_left _ hx))))).1, hRest6 _ (.tail _ (.tail _ (List.mem_append_left _ hx)))⟩⟩
      intro r6 foot6 h' tk' F' N' D6 P'
      obtain ⟨vs0c, m0c, vs1c, m1c, new6, rfl, hT6, hR7, hoN6⟩ := P'
      have D6n : ∀ x ∈ (I, o) :: (md, listOf (List.toArray (mvs ++ [.ref mt])) (mm + 1)) :: (ro6 ++ (pl5 ++ symf5)), x.1 ∉ new6.map (·.1) := off_sub D6 (fun q h => List.mem_append_right _ h)
      obtain ⟨ro7, hro7⟩ : ∃ ro7, ro7 = new6 ++ ro6 := ⟨_, rfl⟩
      have hAn6 : Away kn k0 k1 md p nl new6 := by
        have g : ∀ c ∈ [kn, k0, k1], c ∉ new6.map (·.1) := fun c hc hm => by
          obtain ⟨x, hx, e⟩ := List.mem_map.mp hm
          have z := hoN6 x hx
          simp only [List.map_cons, List.map_nil, List.mem_cons, List.not_mem_nil, or_false, not_or] at z hc
          rcases hc with rfl | rfl | rfl
          · exact z.1 e
          · exact z.2.1 e
          · exact z.2.2 e
        refine away_of (g kn (.head _)) (g k0 (.tail _ (.head _))) (g k1 (.tail _ (.tail _ (.head _)))) (D6n (md, _) (.tail _ (.head _))) ?_ ?_
        · obtain ⟨⟨oP, hp⟩, _⟩ := potHas hP5; exact D6n (p, oP) (.tail _ (.tail _ (List.mem_append_right _ (List.mem_append_left _ hp))))
        · obtain ⟨_, oP, hp⟩ := potHas hP5; exact D6n (nl, oP) (.tail _ (.tail _ (List.mem_append_right _ (List.mem_append_left _ hp))))
      have hA7 : Away kn k0 k1 md p nl (ro7 ++ symf5) := by
        rw [hro7]
        exact (hAn6.app (hA6.sub fun q h => List.mem_append_left _ h)).app (hA6.sub fun q h => List.mem_append_right _ h)
      have hO7 : Off ro7 symf5 := by
        rw [hro7]
        intro x hx
        rcases List.mem_append.mp hx with h | h
        · exact off_sym (off_sub (off_sym D6n) (fun q h => .tail _ (.tail _ (List.mem_append_right _ (List.mem_append_right _ h))))|> off_sym) x h
        · exact hO6 x h
      have hIr7 : I ∉ ro7.map (·.1) := by
        rw [hro7, List.map_append, List.mem_append, not_or]
        exact ⟨D6n (I, o) (.head _), hIr6⟩
      rw [← hro7] at hR7
      have h57 : ∀ q ∈ ro5, q ∈ ro7 := fun q h => by rw [hro7, hro6]; exact List.mem_append_right _ (List.mem_append_right _ h)
      have h37 : ∀ q ∈ ro3, q ∈ ro7 := fun q h => by rw [hro7, hro6, hro4]; exact List.mem_append_right _ (List.mem_append_left _ (.tail _ h))
      have h23 : ∀ q ∈ ro2, q ∈ ro3 := fun q h => by rw [hro3]; exact List.mem_append_right _ h
      have hmt7 : (mt, tupOf [r, .str called tcl, .ref la]) ∈ ro7 := by rw [hro7, hro6, hro4]; exact List.mem_append_right _ (List.mem_append_left _ (.head _))
      have hro27 : ∀ q ∈ ro ++ nw, q ∈ ro7 := fun q h => h37 q (h23 q (by rw [hro2]; exact .tail _ ((List.mem_append.mp h).elim (fun h => List.mem_append_left _ h) fun h => List.mem_append_right _ (List.mem_append_right _ h))))
      have hla7 : (la, listOf (List.toArray pvs) n) ∈ ro7 := h37 _ (h23 _ (by rw [hro2]; exact .head _))
      obtain ⟨e, dxx, t, hsx, tkx, ba, ta, aa, y1, y2, y3, y4, rfl, he5, hdx5, hba5, hta5, haa5⟩ := hE5.out
      have N₅ := newsPart N' (l' := (e, excObj 44 t (some dxx)) :: (dxx, dictOf [⟨hsx, .str "ball" tkx, .ref ba⟩] 1) :: (ba, tupOf [.str "s" y1, .int 16 y2, .ref ta]) :: (ta, tupOf [fv5, .ref aa]) :: (aa, tupOf [.str "a" y3, .int 25 y4]) :: (I, o) :: (kn, listOf (List.toArray [Value.ref k0, Value.ref k1]) 0) :: (k0, listOf (List.toArray vs0c) m0c) :: (k1, listOf (List.toArray vs1c) m1c) :: (md, listOf (List.toArray (mvs ++ [.ref mt])) (mm + 1)) :: ((ro7 ++ symf5) ++ pl5)) (fun x hx => by
        have g5 : ∀ {q : Addr × Obj}, q ∈ ro5 → q ∈ ro6 := fun h => by rw [hro6]; exact List.mem_append_right _ h
        rw [hro7] at hx
        simp only [List.cons_append, List.mem_cons, List.mem_append, List.not_mem_nil, or_false] at hx ⊢
        rcases hx with h | h | h | h | h | h | h | h | h | h | ((h | h) | h) | h
        · rw [h]; simp only [g5 he5, true_or, or_true]
        · rw [h]; simp only [g5 hdx5, true_or, or_true]
        · rw [h]; simp only [g5 hba5, true_or, or_true]
        · rw [h]; simp only [g5 hta5, true_or, or_true]
        · rw [h]; simp only [g5 haa5, true_or, or_true]
        all_goals simp only [h, true_or, or_true])
      clear N' D6
      k_steps
      refine Halt.mk (wpAny_Try_except ?_)
      k_steps
      refine Halt.mk (raise_instQ rfl ?_)
      k_steps
      (rename Fr _ _ _ _ => F10)
      (rename News _ _ _ _ => N10)
      (rename (hd.heap_39 w.params).In _ => X10)
      (rename Top _ _ _ _ _ _ => T10)
      refine ⟨e, t, some dxx, rfl, X10.keeps F10.keep, (N10 _ (.head _)).1, ?_⟩
      have hsub7 : ∀ q ∈ ro7, q ∈ (e, excObj 44 t (some dxx)) :: (dxx, dictOf [⟨hsx, .str "ball" tkx, .ref ba⟩] 1) :: (ba, tupOf [.str "s" y1, .int 16 y2, .ref ta]) :: (ta, tupOf [fv5, .ref aa]) :: (aa, tupOf [.str "a" y3, .int 25 y4]) :: (I, o) :: (kn, listOf (List.toArray [Value.ref k0, Value.ref k1]) 0) :: (k0, listOf (List.toArray vs0c) m0c) :: (k1, listOf (List.toArray vs1c) m1c) :: (md, listOf (List.toArray (mvs ++ [.ref mt])) (mm + 1)) :: ((ro7 ++ symf5) ++ pl5) := fun q h => by simp only [List.mem_cons, List.mem_append, h, true_or, or_true]
      have hPl8 : Plains ro7 (less e ro7) := plains_less N10 hsub7 (.head _)
      have he7 := h57 _ he5
      have hAe := hA7 _ (List.mem_append_left _ he7)
      obtain ⟨ro8, hro8⟩ : ∃ ro8, ro8 = less e ro7 := ⟨_, rfl⟩
      have h87 : ∀ q ∈ ro8, q ∈ ro7 := fun q h => by rw [hro8] at h; exact (mem_less.mp h).1
      have hA8 : Away kn k0 k1 md p nl (ro8 ++ symf5) := hA7.sub fun q h => (List.mem_append.mp h).elim (fun h => List.mem_append_left _ (h87 q h)) (fun h => List.mem_append_right _ h)
      have hO8 : Off ro8 symf5 := fun q h => hO7 q (h87 q h)
      have hIr8 : I ∉ ro8.map (·.1) := fun hm => by obtain ⟨x, hx, e⟩ := List.mem_map.mp hm; exact hIr7 (List.mem_map.mpr ⟨x, h87 x hx, e⟩)
      rw [← hro8] at hPl8
      have N11 := newsPart N10 (l' := (e, excObj 44 t (some dxx)) :: (dxx, dictOf [⟨hsx, .str "ball" tkx, .ref ba⟩] 1) :: (ba, tupOf [.str "s" y1, .int 16 y2, .ref ta]) :: (ta, tupOf [fv5, .ref aa]) :: (aa, tupOf [.str "a" y3, .int 25 y4]) :: (I, o) :: (kn, listOf (List.toArray [Value.ref k0, Value.ref k1]) 0) :: (k0, listOf (List.toArray vs0c) m0c) :: (k1, listOf (List.toArray vs1c) m1c) :: (md, listOf (List.toArray (mvs ++ [.ref mt])) (mm + 1)) :: ((ro8 ++ symf5) ++ pl5)) (fun x hx => by
        have g8 := h87 x
        simp only [List.cons_append, List.mem_cons, List.mem_append, List.not_mem_nil, or_false] at hx ⊢
        rcases hx with h | h | h | h | h | h | h | h | h | h | (h | h) | h
        all_goals first | simp only [h, true_or, or_true] | simp only [g8 h, true_or, or_true])
      have hre : ∀ q ∈ (dxx, dictOf [⟨hsx, .str "ball" tkx, .ref ba⟩] 1) :: (ba, tupOf [.str "s" y1, .int 16 y2, .ref ta]) :: (ta, tupOf [fv5, .ref aa]) :: (aa, tupOf [.str "a" y3, .int 25 y4]) :: (I, o) :: (kn, listOf (List.toArray [Value.ref k0, Value.ref k1]) 0) :: (k0, listOf (List.toArray vs0c) m0c) :: (k1, listOf (List.toArray vs1c) m1c) :: (md, listOf (List.toArray (mvs ++ [.ref mt])) (mm + 1)) :: ((ro8 ++ symf5) ++ pl5), q.1 ≠ e := by
        have gd : ∀ {b : Addr} {ob : Obj}, (b, ob) ∈ ro7 → ob.cls ≠ .ref 44 → b ≠ e := fun hb hc => news_ne N10 (hsub7 _ hb) (.head _) hc
        refine List.forall_mem_cons.mpr ⟨gd (h57 _ hdx5) (fun z => by cases z), List.forall_mem_cons.mpr ⟨gd (h57 _ hba5) (fun z => by cases z), List.forall_mem_cons.mpr ⟨gd (h57 _ hta5) (fun z => by cases z), List.forall_mem_cons.mpr ⟨gd (h57 _ haa5) (fun z => by cases z), List.forall_mem_cons.mpr ⟨fun z => hIr7 (List.mem_map.mpr ⟨_, he7, z.symm⟩),
          List.forall_mem_cons.mpr ⟨Ne.symm hAe.1, List.forall_mem_cons.mpr ⟨Ne.symm hAe.2.1, List.forall_mem_cons.mpr ⟨Ne.symm hAe.2.2.1, List.forall_mem_cons.mpr ⟨Ne.symm hAe.2.2.2.1, fun q hq => ?_⟩⟩⟩⟩⟩⟩⟩⟩⟩
        rcases List.mem_append.mp hq with h | h
        · rcases List.mem_append.mp h with h | h
          · rw [hro8] at h; exact (mem_less.mp h).2
          · exact fun z => hO7 _ he7 (List.mem_map.mpr ⟨_, h, z⟩)
        · exact fun z => offPot hP5 hAe.2.2.2.2.1 hAe.2.2.2.2.2 (List.mem_map.mpr ⟨_, h, z⟩)
      clear N10 hsub7
      refine caught_law rfl F10 N11 hre X10 (topRead_of T10) (by k_is) (fun Ex h' tb tbo F' N' => ?_)
      clear N11 F10
      have hsb : StopBall := trivial
      k_steps
      clear hsb
      (rename Fr _ _ _ _ => F12)
      (rename News _ _ _ _ => N12)
      refine Halt.mk (ball_get (v := .ref ba) (oe := excTb 44 t tb (some dxx)) (od := dictOf [⟨hsx, .str "ball" tkx, .ref ba⟩] 1) (X10.keeps F12.keep) ⟨(N12 _ (.tail _ (.head _))).1, rfl, rfl, (N12 _ (.tail _ (.tail _ (.head _)))).1⟩ (by k_is) (by k_is) (findObj_own (attr := none) (by k_is) (by k_is) rfl (by rw [lookIn_dict]; k_get)) rfl (by k_is) ?_)
      have hsa : StopApp := trivial
      clear hre
      k_steps
      clear hsa
      rename_i a25 _ _ l25 _ m2 _ F13 N13 hm2 l26
      clear l25 l26
      refine Halt.mk ?_
      have hAm2 : Away kn k0 k1 md p nl [(m2, tupOf [fv5, .str called5 tc5, .ref la5])] := fun x hx => by
        rw [List.mem_singleton.mp hx]
        have g : ∀ {y : Addr × Obj}, y ∈ (I, o) :: (kn, listOf (List.toArray [Value.ref k0, Value.ref k1]) 0) :: (k0, listOf (List.toArray vs0c) m0c) :: (k1, listOf (List.toArray vs1c) m1c) :: (md, listOf (List.toArray (mvs ++ [.ref mt])) (mm + 1)) :: (ro8 ++ symf5 ++ pl5) → m2 ≠ y.1 := fun hy => Nat.ne_of_gt (hm2.out _ (.tail _ (.tail _ (.tail _ (.tail _ (.tail _ (.tail _ (.tail _ hy))))))))
        exact ⟨g (y := (kn, _)) (.tail _ (.head _)), g (y := (k0, _)) (.tail _ (.tail _ (.head _))), g (y := (k1, _)) (.tail _ (.tail _ (.tail _ (.head _)))), g (y := (md, _)) (.tail _ (.tail _ (.tail _ (.tail _ (.head _))))), ltPots hP5 (fun x hx => by simp only [List.mem_cons, List.mem_append, hx, or_true]) hm2.out⟩
      have hm2y : m2 ∉ symf5.map (·.1) := off_of_all fun x hx => hm2.out x (by simp only [List.mem_cons, List.mem_append, hx, true_or, or_true])
      have hIm2 : I ≠ m2 := Nat.ne_of_lt (hm2.out (I, o) (by simp only [List.mem_cons, true_or, or_true]))
      obtain ⟨ro9, hro9⟩ : ∃ ro9, ro9 = (m2, tupOf [fv5, .str called5 tc5, .ref la5]) :: ro8 := ⟨_, rfl⟩
      have hA9 : Away kn k0 k1 md p nl (ro9 ++ symf5) := by
        rw [hro9]
        exact (hAm2.app hA8 : Away kn k0 k1 md p nl ([(m2, tupOf [fv5, .str called5 tc5, .ref la5])] ++ (ro8 ++ symf5)))
      have hO9 : Off ro9 symf5 := by
        rw [hro9]
        exact List.forall_mem_cons.mpr ⟨hm2y, hO8⟩
      have hIr9 : I ∉ ro9.map (·.1) := by
        rw [hro9, List.map_cons, List.mem_cons, not_or]
        exact ⟨hIm2, hIr8⟩
      have N14 := newsPart N13 (l' := (I, o) :: (kn, listOf (List.toArray [Value.ref k0, Value.ref k1]) 0) :: (k0, listOf (List.toArray vs0c) m0c) :: (k1, listOf (List.toArray vs1c) m1c) :: (md, listOf (List.toArray (mvs ++ [.ref mt])) (mm + 1)) :: ((ro9 ++ symf5) ++ pl5)) (fun x hx => by
        rw [hro9] at hx
        simp only [List.cons_append, List.mem_cons, List.mem_append, List.not_mem_nil, or_false] at hx ⊢
        rcases hx with h | h | h | h | h | h | (h | h) | h
        all_goals simp only [h, true_or, or_true])
      clear N13 hm2
      have hmd9 : ∀ x ∈ (ro9 ++ symf5) ++ pl5, x.1 ≠ md := fun x hx => (List.mem_append.mp hx).elim (fun h => (hA9 x h).2.2.2.1) fun h e => offPot hP5 s13 s14 (e ▸ List.mem_map_of_mem h)
      have hmvl9 : (mvs ++ [Value.ref mt]).length ≤ 1000 := by rw [List.length_append, List.length_singleton]; omega
      have hsm : StopMeth := trivial
      k_steps
      clear hsm
      (rename News _ _ _ _ => N15)
      obtain ⟨h1', h2', h3', h4', t1', t2', t3', t4', n', rest', hsy5⟩ := symOpen hS5
      have hpS5 : ∀ x ∈ (I, o) :: (kn, listOf (List.toArray [Value.ref k0, Value.ref k1]) 0) :: (k0, listOf (List.toArray vs0c) m0c) :: (k1, listOf (List.toArray vs1c) m1c) :: (md, listOf (List.toArray (mvs ++ [.ref mt] ++ [.ref m2])) (mm + 1 + 1)) :: (ro9 ++ pl5), x.1 ∉ symf5.map (·.1) := by
        have gy : ∀ {c : Addr}, (∀ x ∈ symf5, x.1 ≠ c) → c ∉ symf5.map (·.1) := fun h hm => by obtain ⟨x, hx, e⟩ := List.mem_map.mp hm; exact h x hx e
        have hz : ∀ x ∈ symf5, _ := fun x hx => hA9 x (List.mem_append_right _ hx)
        exact List.forall_mem_cons.mpr ⟨hI5n.2, List.forall_mem_cons.mpr ⟨gy fun x hx => (hz x hx).1, List.forall_mem_cons.mpr ⟨gy fun x hx => (hz x hx).2.1, List.forall_mem_cons.mpr ⟨gy fun x hx => (hz x hx).2.2.1, List.forall_mem_cons.mpr ⟨gy fun x hx => (hz x hx).2.2.2.1, fun x hx => (List.mem_append.mp hx).elim (hO9 x) (potOff hP5 hpy5 hny5 x)⟩⟩⟩⟩⟩
      have N16 := newsPart N15 (l' := (b, instObj 147 dx) :: (dx, dictOf [⟨h1', .str "texts" t1', .ref tx⟩, ⟨h2', .str "atom_numbers" t2', .ref an⟩, ⟨h3', .str "functors" t3', .ref fs⟩, ⟨h4', .str "functor_numbers" t4', .ref fn⟩] n') :: (((I, o) :: (kn, listOf (List.toArray [Value.ref k0, Value.ref k1]) 0) :: (k0, listOf (List.toArray vs0c) m0c) :: (k1, listOf (List.toArray vs1c) m1c) :: (md, listOf (List.toArray (mvs ++ [.ref mt] ++ [.ref m2])) (mm + 1 + 1)) :: (ro9 ++ pl5)) ++ symf5)) (fun x hx => by
        have hb : ∀ y, y = (b, instObj 147 dx) ∨ y = (dx, dictOf [⟨h1', .str "texts" t1', .ref tx⟩, ⟨h2', .str "atom_numbers" t2', .ref an⟩, ⟨h3', .str "functors" t3', .ref fs⟩, ⟨h4', .str "functor_numbers" t4', .ref fn⟩] n') → y ∈ symf5 := fun y hy => by
          rw [hsy5]
          rcases hy with h | h
          · rw [h]; exact .head _
          · rw [h]; exact .tail _ (.head _)
        simp only [List.cons_append, List.mem_cons, List.mem_append, List.not_mem_nil, or_false] at hx ⊢
        rcases hx with h | h | h | h | h | h | h | (h | h) | h
        · simp only [hb x (.inl h), true_or, or_true]
        · simp only [hb x (.inr h), true_or, or_true]
        all_goals simp only [h, true_or, or_true])
      clear N15
      have hSy5 := hSy3.grow hG5 hcl5.2
      have hq0 : vs0c.length = atoms5.length := hT6.length.trans hSy5.len0
      have hq1 : vs1c.length = funs5.length := hR7.length.trans hSy5.len1
      refine Halt.mk ?_
      k_steps
      have N17 := newsPart N16 (l' := ((I, o) :: (kn, listOf (List.toArray [Value.ref k0, Value.ref k1]) 0) :: (k0, listOf (List.toArray vs0c) m0c) :: (k1, listOf (List.toArray vs1c) m1c) :: (md, listOf (List.toArray (mvs ++ [.ref mt] ++ [.ref m2])) (mm + 1 + 1)) :: (ro9 ++ pl5)) ++ symf5) (fun x hx => .tail _ (.tail _ hx))
      clear N16
      refine' Halt.mk (callOk_tail (pre := (I, o) :: (kn, listOf (List.toArray [Value.ref k0, Value.ref k1]) 0) :: (k0, listOf (List.toArray vs0c) m0c) :: (k1, listOf (List.toArray vs1c) m1c) :: (md, listOf (List.toArray (mvs ++ [.ref mt] ++ [.ref m2])) (mm + 1 + 1)) :: (ro9 ++ pl5)) (count_ok hS5 (by omega)) ?zB ?zF ?zX ?zN ?zT ?ze ?zhn rfl rfl rfl rfl ?zhd ?zhu ?_)
      case zB => k_asm
      case zF => k_asm
      case zX => k_asm
      case zN => exact N17
      case zT => k_asm
      case zhd => exact Nat.le_of_ble_eq_true rfl
      case zhu => exact Nat.le_of_ble_eq_true rfl
      case ze => exact rfl
      case zhn => exact hpS5
      intro r7 symf7 h' tk' F' N' D7 P'
      obtain ⟨⟨t7, er7⟩, hS7⟩ := P'
      rw [← hq0] at er7
      subst er7
      clear N17
      have hsm : StopMeth := trivial
      simp only [List.cons_append] at N'
      k_steps
      · (rename ((_ : Int) ≠ _) => hbad)
        exact absurd rfl hbad
      clear hsm
      (rename News _ _ _ _ => N15)
      obtain ⟨g1', g2', g3', g4', u1', u2', u3', u4', n7, rest7, hsy7⟩ := symOpen hS7
      have N16 := newsPart N15 (l' := (b, instObj 147 dx) :: (dx, dictOf [⟨g1', .str "texts" u1', .ref tx⟩, ⟨g2', .str "atom_numbers" u2', .ref an⟩, ⟨g3', .str "functors" u3', .ref fs⟩, ⟨g4', .str "functor_numbers" u4', .ref fn⟩] n7) :: (((I, o) :: (kn, listOf (List.toArray [Value.ref k0, Value.ref k1]) 0) :: (k0, listOf (List.toArray vs0c) m0c) :: (k1, listOf (List.toArray vs1c) m1c) :: (md, listOf (List.toArray (mvs ++ [.ref mt] ++ [.ref m2])) (mm + 1 + 1)) :: (ro9 ++ pl5)) ++ symf7)) (fun x hx => by
        have hb : ∀ y, y = (b, instObj 147 dx) ∨ y = (dx, dictOf [⟨g1', .str "texts" u1', .ref tx⟩, ⟨g2', .str "atom_numbers" u2', .ref an⟩, ⟨g3', .str "functors" u3', .ref fs⟩, ⟨g4', .str "functor_numbers" u4', .ref fn⟩] n7) → y ∈ symf7 := fun y hy => by
          rw [hsy7]
          rcases hy with h | h
          · rw [h]; exact .head _
          · rw [h]; exact .tail _ (.head _)
        simp only [List.cons_append, List.mem_cons, List.mem_append, List.not_mem_nil, or_false] at hx ⊢
        rcases hx with h | h | h | h | h | h | h | (h | h) | h
        · simp only [hb x (.inl h), true_or, or_true]
        · simp only [hb x (.inr h), true_or, or_true]
        all_goals simp only [h, true_or, or_true])
      clear N15
      refine Halt.mk ?_
      k_steps
      have N17 := newsPart N16 (l' := ((I, o) :: (kn, listOf (List.toArray [Value.ref k0, Value.ref k1]) 0) :: (k0, listOf (List.toArray vs0c) m0c) :: (k1, listOf (List.toArray vs1c) m1c) :: (md, listOf (List.toArray (mvs ++ [.ref mt] ++ [.ref m2])) (mm + 1 + 1)) :: (ro9 ++ pl5)) ++ symf7) (fun x hx => .tail _ (.tail _ hx))
      clear N16
      refine' Halt.mk (callOk_tail (pre := (I, o) :: (kn, listOf (List.toArray [Value.ref k0, Value.ref k1]) 0) :: (k0, listOf (List.toArray vs0c) m0c) :: (k1, listOf (List.toArray vs1c) m1c) :: (md, listOf (List.toArray (mvs ++ [.ref mt] ++ [.ref m2])) (mm + 1 + 1)) :: (ro9 ++ pl5)) (fcount_ok hS7 (by omega)) ?zB ?zF ?zX ?zN ?zT ?ze ?zhn rfl rfl rfl rfl ?zhd ?zhu ?_)
      case zB => k_asm
      case zF => k_asm
      case zX => k_asm
      case zN => exact N17
      case zT => k_asm
      case zhd => exact Nat.le_of_ble_eq_true rfl
      case zhu => exact Nat.le_of_ble_eq_true rfl
      case ze => exact rfl
      case zhn => exact D7
      intro r8 symf8 h' tk' F' N' D8 P'
      obtain ⟨⟨t8, er8⟩, hS8⟩ := P'
      rw [← hq1] at er8
      subst er8
      clear N17
      simp only [List.cons_append] at N'
      k_steps
      · (rename ((_ : Int) ≠ _) => hbad)
        exact absurd rfl hbad
      obtain ⟨ga, gf⟩ := hG.get
      obtain ⟨ga5, gf5⟩ := hG5.get
      have h98 : ∀ q ∈ ro8, q ∈ ro9 := fun q h => by rw [hro9]; exact .tail _ h
      have hpp7 : PartsOk ro7 pvs := hpp3.mono h37
      have hMd7 : MadeOk atoms5 funs5 ro7 (mvs ++ [.ref mt]) := (hMd.mono (fun i x h => ga5 i x (ga i x h)) (fun i x h => gf5 i x (gf i x h)) (fun q h => hro27 q (List.mem_append_left _ h))).push
        ⟨mt, r, called, tcl, la, n, pvs, rfl, hmt7, hla7, hpp7, hpv4, (lawNames_ok hcl).2, hFk.mono ga5 gf5 (fun q h => hro27 q (List.mem_append_right _ h))⟩
      have hMd9 : MadeOk atoms5 funs5 ro9 (mvs ++ [.ref mt] ++ [.ref m2]) := ((hMd7.plains hPl8).mono (fun _ _ h => h) (fun _ _ h => h) h98).push
        ⟨m2, fv5, called5, tc5, la5, n5, pvs5, rfl, by rw [hro9]; exact .head _, h98 _ (hPl8.lst (h57 _ hla5)), ((hpp5.mono h57).plains hPl8).mono h98, Nat.le_succ_of_le hpl5, hcl5.1, ((hK5.mono (fun _ _ h => h) (fun _ _ h => h) h57).plains hPl8).mono (fun _ _ h => h) (fun _ _ h => h) h98⟩
      have hR9 := (hR7.plains hPl8).mono h98
      have hAy8 : Away kn k0 k1 md p nl symf8 := away_of (D8 (kn, _) (.tail _ (.head _))) (D8 (k0, _) (.tail _ (.tail _ (.head _)))) (D8 (k1, _) (.tail _ (.tail _ (.tail _ (.head _))))) (D8 (md, _) (.tail _ (.tail _ (.tail _ (.tail _ (.head _))))))
        (by obtain ⟨⟨oP, hp⟩, _⟩ := potHas hP5; exact D8 (p, oP) (.tail _ (.tail _ (.tail _ (.tail _ (.tail _ (List.mem_append_right _ hp))))))) (by obtain ⟨_, oP, hp⟩ := potHas hP5; exact D8 (nl, oP) (.tail _ (.tail _ (.tail _ (.tail _ (.tail _ (List.mem_append_right _ hp)))))))
      refine giveT_ (l := (kn, listOf (List.toArray [Value.ref k0, Value.ref k1]) 0) :: (k0, listOf (List.toArray vs0c) m0c) :: (k1, listOf (List.toArray vs1c) m1c) :: (md, listOf (List.toArray (mvs ++ [.ref mt] ++ [.ref m2])) (mm + 1 + 1)) :: ((ro9 ++ symf8) ++ pl5))
        ⟨fun y h1 h2 => ?_, atoms5, funs5, _, _, vs0c, m0c, vs1c, m1c, mvs ++ [.ref mt] ++ [.ref m2], mm + 1 + 1, ro9, pl5, symf8, rfl, hT6, hR9, hSy5, hMd9, ?_, ?_, ?_, hP5, hS8, (hA9.sub fun q h => List.mem_append_left _ h).app hAy8, fun q h => D8 q (.tail _ (.tail _ (.tail _ (.tail _ (.tail _ (List.mem_append_left _ h))))))⟩ ?_ ?_
      · have m1 := ne_of_contains h2 (z := Str.ofString "met") (by decide)
        have m2 := ne_of_contains h2 (z := Str.ofString "ball") (by decide)
        have m3 := ne_of_contains h2 (z := Str.ofString "parts") (by decide)
        have m4 := ne_of_contains h2 (z := Str.ofString "called") (by decide)
        have m5 := ne_of_contains h2 (z := Str.ofString "fault") (by decide)
        have m6 := ne_of_contains h2 (z := Str.ofString "formal") (by decide)
        simp only [h1, h2, m1, m2, m3, m4, m5, m6, if_false, Bool.false_eq_true]
        rfl
      · simp only [List.length_append, List.length_singleton]; omega
      · omega
      · omega
      · intro x hx
        rw [List.mem_singleton.mp hx]
        simp only [List.map_cons, List.map_append, List.mem_cons, List.mem_append, not_or]
        exact ⟨hI1, hI2, hI3, hI4, ⟨hIr9, D8 (I, o) (.head _)⟩, offPot hP5 hIp.2.1 hIp.2.2⟩
      · intro x hx
        simp only [List.cons_append, List.nil_append, List.mem_cons, List.mem_append, List.not_mem_nil, or_false] at hx ⊢
        rcases hx with h | h | h | h | h | (h | h) | h
        all_goals simp only [h, true_or, or_true]
  · intro u3 foot₁ h tk hJ ho F₁ N₁
    obtain ⟨atoms, funs, K0, K1, vs0, m0, vs1, m1, mvs, mm, ro, pl, symf, rfl, hT0, hR1, hSy, hMd, hmn, hal, hfl, hP, hS, hAw, hOf⟩ := hJ
    have hat : atoms.length ≤ 1000 := by have := hdd.out; omega
    have hft : funs.length ≤ 1000 := by have := hdd.out; omega
    clear hrg F5 N5
    k_steps
    (rename Fr _ _ _ _ => F5)
    refine For_turns F5 ?_
    k_steps
    (rename Fr _ _ _ _ => F6)
    (rename News _ _ _ _ => N6)
    have N7 := newsPart N6 (l' := ((md, listOf (List.toArray mvs) mm) :: ro) ++ symf) (fun x hx => by
      simp only [List.cons_append, List.nil_append, List.mem_cons, List.mem_append] at hx ⊢
      rcases hx with h | h | h
      all_goals simp only [h, true_or, or_true])
    have hoff : ∀ x ∈ (md, listOf (List.toArray mvs) mm) :: ro, x.1 ∉ symf.map (·.1) := List.forall_mem_cons.mpr ⟨fun hm => by obtain ⟨x, hx, e⟩ := List.mem_map.mp hm; exact (hAw x (List.mem_append_right _ hx)).2.2.2.1 e, hOf⟩
    clear N6
    refine Halt.mk ?_
    refine iter_listT (l := md) (ol := listOf (List.toArray mvs) mm) (items := mvs) (k := mm) (keep := (md, listOf (List.toArray mvs) mm) :: ro) (foot := symf) ["formal", "called", "parts"] (fun F => SymS Challenge.rw_sa0143_01.row.prog w b dx tx an fs fn atoms funs F) rfl (N7 _ (.head _)).1 rfl rfl (.head _) F6 N7 hoff hS ?_ ?_
    · intro i v u foot₂ I o h tk hi hJ hoff2 hne2 F₂ N₂
      clear F6 N7 hoff
      obtain ⟨mt, fv, called, tc, la, n, pvs, rfl, hmt, hla, hpp, hpl, hcl, hF⟩ := hMd v (List.mem_of_getElem? hi)
      have N₃ := newsPart N₂ (l' := (mt, tupOf [fv, .str called tc, .ref la]) :: (I, o) :: (md, listOf (List.toArray mvs) mm) :: (ro ++ foot₂)) (fun x hx => by
        simp only [List.cons_append, List.mem_cons, List.mem_append] at hx ⊢
        rcases hx with h | h | h | h | h
        · rw [h]; simp only [hmt, true_or, or_true]
        all_goals simp only [h, true_or, or_true])
      clear N₂
      have hoff3 : ∀ x ∈ (mt, tupOf [fv, .str called tc, .ref la]) :: (I, o) :: (md, listOf (List.toArray mvs) mm) :: ro, x.1 ∉ foot₂.map (·.1) := List.forall_mem_cons.mpr ⟨hoff2 _ (.tail _ (.tail _ hmt)), hoff2⟩
      k_steps
      refine' Halt.mk (callOkR_tail (pre := (mt, tupOf [fv, .str called tc, .ref la]) :: (I, o) :: (md, listOf (List.toArray mvs) mm) :: ro) (reads_ok (cs := ro) (la := la) (n := n) hJ hat hft hpp hpl hcl hF) ?zB ?zF ?zX ?zN ?zT ?ze ?zhn rfl rfl rfl rfl ?zhd ?zhu ?zhr ?_)
      case zB => k_asm
      case zF => k_asm
      case zX => k_asm
      case zN => k_asm
      case zT => k_asm
      case zhd => exact Nat.le_of_ble_eq_true rfl
      case zhu => exact Nat.le_of_ble_eq_true rfl
      case ze => exact rfl
      case zhn => exact hoff3
      case zhr => exact List.forall_mem_cons.mpr ⟨⟨News.get (by k_asm) (.tail _ (.tail _ (.tail _ (List.mem_append_left _ hla)))), hoff3 _ (.tail _ (.tail _ (.tail _ hla)))⟩, fun x hx => ⟨News.get (by k_asm) (.tail _ (.tail _ (.tail _ (List.mem_append_left _ hx)))), hoff3 _ (.tail _ (.tail _ (.tail _ hx)))⟩⟩
      intro r foot3 h' tk' F' N' D3 P'
      obtain ⟨rfl, hS3⟩ := P'
      simp only [List.cons_append] at N'
      k_steps
      refine giveT_ (l := foot3) ⟨fun y h2 => ?_, hS3⟩ (fun x hx => D3 x (.tail _ hx)) (fun x hx => .tail _ hx)
      have m3 := ne_of_contains h2 (z := Str.ofString "parts") (by decide)
      have m4 := ne_of_contains h2 (z := Str.ofString "called") (by decide)
      have m6 := ne_of_contains h2 (z := Str.ofString "formal") (by decide)
      simp only [h2, m3, m4, m6, if_false, Bool.false_eq_true]
    · intro u foot₂ h tk hJ ho2 F₂ N₂
      k_steps)

end Mine
theorem PySem.Challenge.cw_sa0143_01_holds : PySem.Challenge.rw_sa0143_01.Holds :=
  Mine.law_holds
