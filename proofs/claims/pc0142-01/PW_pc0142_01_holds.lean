import PyProof.Rows.All
import Wide.All
import OpenK.AllK
import Wide.FinOn
import Lean
import PySem.Challenge.RW_pc0142_01
open PySem PySem.W PySem.Calls PySem.Spec PyProof.Rows
set_option Elab.async false
set_option linter.all false
set_option maxRecDepth 100000
set_option maxHeartbeats 0
namespace Mine
def runT (tb : String → Option Builtin) (p : Program) (w : World) (n₀ : Nat) (ann : Option Value) : Nat → SharedT → Thread → Option SharedT
  | 0, _, _ => none
  | n + 1, s, t => match through t with
    | true => some s
    | false => match stepOk n₀ ann t with
      | false => none
      | true => match stepT (denote tb) p w s t with
        | some (s', t') => runT tb p w n₀ ann n s' t'
        | none => none
theorem runT_spec {tb : String → Option Builtin} {p : Program} {w : World} {n₀ : Nat} {ann : Option Value} : ∀ {n : Nat} {s s' : SharedT} {t : Thread}, runT tb p w n₀ ann n s t = some s' → topRun tb p w n₀ ann n s.abs t = some s'.abs
  | 0, _, _, _, h => by cases h
  | n + 1, s, s', t, h => by
    unfold runT at h
    unfold topRun
    cases he : through t with
    | true => rw [he] at h; cases h; rfl
    | false =>
      rw [he] at h
      cases hk : stepOk n₀ ann t with
      | false => rw [hk] at h; cases h
      | true =>
        rw [hk] at h
        cases hs : stepT (denote tb) p w s t with
        | none => rw [hs] at h; cases h
        | some r => obtain ⟨s₂, t₂⟩ := r; rw [hs] at h; rw [stepT_spec hs]; exact runT_spec h
def plant (l : List Obj) : BT := (l.foldl (fun (a : BT × Nat) o => (a.1.ins a.2 o, a.2 + 1)) (BT.nil, 0)).1
noncomputable def bootT (w : World) (os : OsState) : SharedT := ⟨plant (boot_heap w.params).objs.toList, (boot_heap w.params).objs.size, (boot_heap w.params).life, #[], boot_drawn, boot_toks, os⟩
theorem bootT_abs (w : World) (os : OsState) : (bootT w os).abs = ⟨boot_heap w.params, #[], boot_drawn, boot_toks, os⟩ := by kernel_rfl
theorem boot_size (P : Params) : ((boot_heap P).isNs mainGlobals && (#[] : Array GenState).size == 0, (boot_heap P).objs.size, (boot_heap P).nsMap mainGlobals "__annotations__") = (true, 11, some (.ref 6)) := by kernel_rfl
def topSeen (p q : Program) (loose : List Str) (Xt : Shared → Bool) (g0 : Bool) {α : Type} (Yf : Shared → α) (h : Heap) (s : Shared) :=
  ((staticsOk (importedModules p.main.body) h s.heap && namesBound p s.heap && gensDone s && laidKept h s.heap), openSeen q loose (importedModules p.main.body) Xt g0 s, Yf s)
theorem left_of_run {p q : Program} {loose : List Str} {Xt : Shared → Bool} {α : Type} {Yf : Shared → α} {Ya : World → α} {N : Nat} {g0 : Bool}
    (e : opening p = plainProg p.main.scope.names) (hN : Nat.ble 600 N = true) (f : ∀ s, fenceModules? p s = some s)
    (run : ∀ (w : World) (os : OsState), (runT treeTable p w 11 (some (.ref 6)) N (bootT w os) (topStub p)).map (fun s => topSeen p q loose Xt g0 Yf (boot_heap w.params) s.abs) = some (true, openGood q loose, Ya w)) :
    LeftO p q loose Xt Yf Ya N g0 := fun w => by
  obtain ⟨⟨h, gs, d, k, os⟩, e1, e2⟩ := Option.map_eq_some_iff.mp (boot_open e hN f w)
  obtain ⟨rfl, rfl, rfl, rfl⟩ : h = boot_heap w.params ∧ gs = #[] ∧ d = boot_drawn ∧ k = boot_toks := by simpa using e2
  obtain ⟨s, r, z⟩ := Option.map_eq_some_iff.mp (run w os)
  have r := runT_spec r
  rw [bootT_abs] at r
  obtain ⟨z1, z2, z3⟩ : _ ∧ _ ∧ _ := by simpa only [Prod.mk.injEq] using boot_size w.params
  obtain ⟨l1, l2, l3⟩ : _ ∧ _ ∧ _ := by simpa only [topSeen, Prod.mk.injEq] using z
  have t : topFrom treeTable p w N ⟨boot_heap w.params, #[], boot_drawn, boot_toks, os⟩ = some s.abs := by
    unfold topFrom
    dsimp only
    rw [z1, z2, z3, r]
    show (match staticsOk (importedModules p.main.body) (boot_heap w.params) s.abs.heap && namesBound p s.abs.heap && gensDone s.abs && laidKept (boot_heap w.params) s.abs.heap with | true => _ | false => _) = _
    rw [l1]
  unfold openEnds
  rw [e1]
  show (topFrom treeTable p w N _).map _ = _
  rw [t]
  exact congrArg some (Prod.ext l2 l3)
abbrev pw : Program := PySem.Challenge.pw_pc0142_01
def lawQ : Program := view PySem.Challenge.pw_pc0142_01 [70]
def lawLoose : List Str := PySem.Challenge.pw_pc0142_01.boundNames.filter fun n => n != ("law" : Str)
local macro_rules | `(tactic| o_law) => `(tactic| refine holds_law (by decide +kernel) fun said => ?_)
local macro_rules | `(tactic| o_head $H) => do
  let hw := Lean.mkIdent `hw
  let hc := Lean.mkIdent `hc
  `(tactic| (refine holds_open (q := lawQ) (loose := lawLoose) (Xt := fun s => xlAt lawQ [] s && recOk [] s) (XP := XL lawQ []) (Yf := Hook.obs $H) (Ya := Hook.val $H) (YP := Hook.says $H) (N := 4000) (left_of_run (by kernel_rfl) (by decide) (fun s => by kernel_rfl) (fun w os => by kernel_rfl)) (Hook.of $H) (Hook.keeps $H) (fun s e => xl_of s (Bool.and_eq_true_iff.mp e).1) XL.keeps (by rfl) (by rfl) (by rfl) (fun s e => recFacts_of (Bool.and_eq_true_iff.mp e).2) (by rfl) (by first | assumption | decide +kernel) (by decide +kernel) ⟨rfl, rfl, rfl, rfl, rfl, by decide +kernel⟩ ?$hw ?$hc))
open_top hd for PySem.Challenge.rw_pc0142_01
set_option maxHeartbeats 4000000
/-- the end of a def's body: what it leaves, and that all that stood before stands -/
def Ends (g : Heap) (sub : List (Addr × Obj)) (P : Value → List (Addr × Obj) → Prop) (v : Value) (s s' : Shared) : Prop :=
  ∃ L' m' news' new, s' = { s with heap := s'.heap, toks := s'.toks } ∧ Fr g L' s'.heap m' ∧ News g L' s'.heap news' ∧ (∀ p ∈ sub, p ∈ news') ∧ (∀ p ∈ new, p ∈ news') ∧ (∀ q ∈ sub, ∀ p ∈ new, p.1 ≠ q.1) ∧ P v new
theorem Ends.intro {g h' : Heap} {sub news' : List (Addr × Obj)} {P : Value → List (Addr × Obj) → Prop} {v : Value} {h₁ : Heap} {gs : Array GenState} {dr : Drawn} {tk₁ : Nat} {os : OsState} {L' : Addr} {m' : Str → Option Value} {tk : Nat} (new : List (Addr × Obj))
    (F : Fr g L' h' m') (N : News g L' h' news') (hs : ∀ p ∈ sub, p ∈ news') (hn : ∀ p ∈ new, p ∈ news') (hd : ∀ q ∈ sub, ∀ p ∈ new, p.1 ≠ q.1) (hp : P v new) : Ends g sub P v ⟨h₁, gs, dr, tk₁, os⟩ ⟨h', gs, dr, tk, os⟩ :=
  ⟨L', m', news', new, rfl, F, N, hs, hn, hd, hp⟩
theorem Ends.plain {g h' : Heap} {sub news' : List (Addr × Obj)} {P : Value → List (Addr × Obj) → Prop} {v : Value} {h₁ : Heap} {gs : Array GenState} {dr : Drawn} {tk₁ : Nat} {os : OsState} {L' : Addr} {m' : Str → Option Value} {tk : Nat}
    (F : Fr g L' h' m') (N : News g L' h' news') (hs : ∀ p ∈ sub, p ∈ news') (hp : P v []) : Ends g sub P v ⟨h₁, gs, dr, tk₁, os⟩ ⟨h', gs, dr, tk, os⟩ :=
  Ends.intro [] F N hs (fun _ h => nomatch h) (fun _ _ _ h => nomatch h) hp

def Spec (w : World) (K : Frag) (f : Addr) (args : List Value) (sub : List (Addr × Obj)) (n : Nat) (P : Value → List (Addr × Obj) → Prop) : Prop :=
  ∀ (dp un : Nat) (gd : Option (List Code)) (cn : Str) (cs : Scope) (a : Addr) (ccd : Value) (cl : List (Str × Addr)) (outer : List Env) (A₀ : Around) (base h₀ : Heap) (L : Addr) (m mg mb : Str → Option Value) (mean : ExcName → Option Value) (news : List (Addr × Obj)) (s : Shared) (Q E : Value → Shared → Prop),
    Below A₀ base outer h₀ → Fr h₀ L s.heap m → K.In h₀ → News h₀ L s.heap news → Top lawQ lawLoose mean mg mb h₀ → cs.kind = .function → (∀ p ∈ sub, p ∈ news) → dp + n < recursionLimit → un + 8 * n < cLine →
    (∀ v new h' tk', Fr h₀ L h' m → News h₀ L h' (new ++ news) → (∀ q ∈ news, ∀ p ∈ new, p.1 ≠ q.1) → P v new → Q v { s with heap := h', toks := tk' }) →
    wpAny (model PySem.Challenge.pw_pc0142_01 w) (ktrTop dp un gd cn cs L a ccd cl outer) (call (.ref f) args) Q E s

section
variable {w : World} {A₀ A : Around} {s : Shared} {base h₀ : Heap} {outer : List Env} {L : Addr} {m mg mb : Str → Option Value} {mean : ExcName → Option Value} {env : Env} {news sub : List (Addr × Obj)} {K : Frag} {prog : Program}
  {Q E : Value → Shared → Prop} {P : Value → List (Addr × Obj) → Prop} {name qual : Str} {params : Arguments} {body : List Stmt} {scope : Scope} {dV kV doc pm cdv ct oc : Value} {an od : Option Addr} {osl : Array (Option Value)} {f : Addr} {args : List Value} {binds : List (Str × Value)}

theorem ends_back (F : Fr h₀ L s.heap m) (N : News h₀ L s.heap news) (hs : ∀ p ∈ sub, p ∈ news)
    (ret : ∀ v new h' tk', Fr h₀ L h' m → News h₀ L h' (new ++ news) → (∀ q ∈ news, ∀ p ∈ new, p.1 ≠ q.1) → P v new → Q v { s with heap := h', toks := tk' })
    {v : Value} {s₁ s' : Shared} (hs₁ : ∃ h t, s₁ = { s with heap := h, toks := t }) (e : Ends (hideAll s.heap (sub.map (·.1))) sub P v s₁ s') : Q v s' := by
  obtain ⟨L', m', news', new, e1, F', N', hsub, hnew, hd, hp⟩ := e
  obtain ⟨h, t, rfl⟩ := hs₁
  have e2 : s' = { s with heap := s'.heap, toks := s'.toks } := e1
  have Ns : News h₀ L s.heap sub := fun p hp => N p (hs p hp)
  have nm : ∀ b o, h₀.get? b = some o → b ∉ sub.map (·.1) := fun b o e q => by
    obtain ⟨p, hp, rfl⟩ := List.mem_map.mp q
    rw [(Ns p hp).2.2] at e; cases e
  have st : ∀ b o, h₀.get? b = some o → (hideAll s.heap (sub.map (·.1))).get? b = some o := fun b o e => hideAll_get _ (F.keep b o e) (nm b o e)
  obtain ⟨oL, es, ep, hL, hLd, hLk, hLf⟩ := F.ns
  have nL : L ∉ sub.map (·.1) := fun q => by
    obtain ⟨p, hp, e⟩ := List.mem_map.mp q
    exact (Ns p hp).2.1 e
  have hLg := hideAll_get (sub.map (·.1)) hL nL
  have gnone : ∀ p ∈ new, (hideAll s.heap (sub.map (·.1))).get? p.1 = none := fun p hp => (N' p (hnew p hp)).2.2
  have hin : ∀ q ∈ news, q.1 ∈ sub.map (·.1) → q ∈ sub := fun q hq hm => by
    obtain ⟨p, hp, e⟩ := List.mem_map.mp hm
    have a := (N q hq).1
    have b := (N p (hs p hp)).1
    rw [e, a] at b
    obtain ⟨q1, q2⟩ := q
    obtain ⟨p1, p2⟩ := p
    cases e; cases b; exact hp
  rw [e2]
  refine ret v new s'.heap s'.toks ⟨⟨oL, es, ep, F'.keep L oL hLg, hLd, hLk, hLf⟩, fun b o e => F'.keep b o (st b o e), F.above⟩ (fun p hp => ?_) (fun q hq p hp => ?_) hp
  · rcases List.mem_append.mp hp with hp | hp
    · refine ⟨(N' p (hnew p hp)).1, fun q => ?_, ?_⟩
      · have := gnone p hp; rw [q, hLg] at this; cases this
      · cases q : h₀.get? p.1 with
        | none => rfl
        | some o => have := gnone p hp; rw [st _ _ q] at this; cases this
    · refine ⟨?_, (N p hp).2⟩
      by_cases hm : p.1 ∈ sub.map (·.1)
      · exact (N' p (hsub p (hin p hp hm))).1
      · exact F'.keep _ _ (hideAll_get _ (N p hp).1 hm)
  · by_cases hm : q.1 ∈ sub.map (·.1)
    · exact hd q (hin q hq hm) p hp
    · intro e
      have := gnone p hp
      rw [e, hideAll_get _ (N q hq).1 hm] at this; cases this

theorem enterC (B : Below A₀ base outer h₀) (F : Fr h₀ L s.heap m) (X₀ : K.In h₀) (N : News h₀ L s.heap news) (T : Top lawQ lawLoose mean mg mb h₀) (hA : A.frames = some (env :: outer)) (hf : env.frame = some L) (hke : env.scope.kind = .function)
    (hs : ∀ p ∈ sub, p ∈ news)
    (ho : K.lookup f = some ⟨oc, od, .func (fnOf name qual params body scope dV kV doc pm an cdv ct), osl⟩) (hcd : codeIn K cdv qual = true) (hroom : A.depth < recursionLimit)
    (hbind : BindsTo s (fnOf name qual params body scope dV kV doc pm an cdv ct) ⟨args, []⟩ binds) (hloc : ∀ y ∈ binds, scope.names.lookup y.1 = some .local)
    (ret : ∀ v new h' tk', Fr h₀ L h' m → News h₀ L h' (new ++ news) → (∀ q ∈ news, ∀ p ∈ new, p.1 ≠ q.1) → P v new → Q v { s with heap := h', toks := tk' })
    (h : ∀ g L' h₁ gs dr tk os, Fr g L' h₁ (fun y => binds.reverse.lookup y) → News g L' h₁ sub → Below A base (env :: outer) g → K.In g → Top lawQ lawLoose mean mg mb g → (∀ p ∈ sub, p.1 < L') →
      wpAny (model prog w) (A.deeper (envOf qual scope L' f cdv)) (execs body (envOf qual scope L' f cdv)) (fun fl s' => Ends g sub P (match fl with | .ret v => v | _ => .none) ⟨h₁, gs, dr, tk, os⟩ s') (fun _ _ => False) ⟨h₁, gs, dr, tk, os⟩)
    (hco : scope.isCoroutine = false) (hgen : scope.isGenerator = false) (hk : scope.kind = .function)
    (hcell : ∀ x ∈ scope.names, x.2 ≠ .cell) : wpAny (model prog w) A (call (.ref f) args) Q E s := by
  have Ns : News h₀ L s.heap sub := fun p hp => N p (hs p hp)
  obtain ⟨FG, BG, st, _⟩ := groundX (R := fun _ _ => True) B F Ns hA hf hke
  refine wpAny_call (codeAny_call_def (fd := fnOf name qual params body scope dV kV doc pm an cdv ct) (body := body) (binds := binds) hroom ((X₀.keeps F.keep) _ _ ho) rfl (T.nolimit.keeps F.keep) (codeRec_of (X₀.keeps F.keep) hcd) rfl hbind hcell hloc (fun h₁ hns hk₁ => ?_) hco hgen hk)
  refine wpAny_mono (h (hideAll s.heap (sub.map (·.1))) s.heap.objs.size h₁ s.gens s.drawn _ s.os ⟨hns, fun b o e => hk₁ b o (of_hideAll _ e), Nat.le_of_eq (hideAll_size _ _)⟩
    (fun p hp => ⟨hk₁ _ _ (Ns p hp).1, Nat.ne_of_lt (Heap.lt_size (Ns p hp).1), hideAll_none _ (List.mem_map_of_mem hp)⟩) BG (X₀.keeps fun b o e => st b o e) (T.keeps fun b o e => st b o e) (fun p hp => Heap.lt_size (Ns p hp).1)) (fun fl s' hl => ?_) fun _ _ y => y.elim
  exact ends_back F N hs ret ⟨h₁, _, rfl⟩ hl

theorem enterG (B : Below A₀ base outer h₀) (F : Fr h₀ L s.heap m) (X₀ : K.In h₀) (N : News h₀ L s.heap news) (T : Top lawQ lawLoose mean mg mb h₀) (hA : A.frames = some (env :: outer)) (hf : env.frame = some L) (hke : env.scope.kind = .function)
    (hs : ∀ p ∈ sub, p ∈ news)
    (ho : K.lookup f = some ⟨oc, od, .func (fnOf name qual params body scope dV kV doc pm an cdv ct), osl⟩) (hcd : codeIn K cdv qual = true) (hroom : A.depth < recursionLimit)
    (hbind : BindsTo s (fnOf name qual params body scope dV kV doc pm an cdv ct) ⟨args, []⟩ binds) (hloc : ∀ y ∈ binds, scope.names.lookup y.1 = some .local)
    (ret : ∀ v new h' tk', Fr h₀ L h' m → News h₀ L h' (new ++ news) → (∀ q ∈ news, ∀ p ∈ new, p.1 ≠ q.1) → P v new → Q v { s with heap := h', toks := tk' })
    (h : ∀ g L' h₁ gs dr tk os, Fr g L' h₁ (fun y => binds.reverse.lookup y) → News g L' h₁ sub → Below A base (env :: outer) g → K.In g → Top lawQ lawLoose mean mg mb g → (∀ p ∈ sub, p.1 < L') →
      (∀ p ∈ news, p.1 ∉ sub.map (·.1) → g.get? p.1 = some p.2) →
      wpAny (model prog w) (A.deeper (envOf qual scope L' f cdv)) (execs body (envOf qual scope L' f cdv)) (fun fl s' => Ends g sub P (match fl with | .ret v => v | _ => .none) ⟨h₁, gs, dr, tk, os⟩ s') (fun _ _ => False) ⟨h₁, gs, dr, tk, os⟩)
    (hco : scope.isCoroutine = false) (hgen : scope.isGenerator = false) (hk : scope.kind = .function)
    (hcell : ∀ x ∈ scope.names, x.2 ≠ .cell) : wpAny (model prog w) A (call (.ref f) args) Q E s := by
  have Ns : News h₀ L s.heap sub := fun p hp => N p (hs p hp)
  obtain ⟨FG, BG, st, _⟩ := groundX (R := fun _ _ => True) B F Ns hA hf hke
  refine wpAny_call (codeAny_call_def (fd := fnOf name qual params body scope dV kV doc pm an cdv ct) (body := body) (binds := binds) hroom ((X₀.keeps F.keep) _ _ ho) rfl (T.nolimit.keeps F.keep) (codeRec_of (X₀.keeps F.keep) hcd) rfl hbind hcell hloc (fun h₁ hns hk₁ => ?_) hco hgen hk)
  refine wpAny_mono (h (hideAll s.heap (sub.map (·.1))) s.heap.objs.size h₁ s.gens s.drawn _ s.os ⟨hns, fun b o e => hk₁ b o (of_hideAll _ e), Nat.le_of_eq (hideAll_size _ _)⟩
    (fun p hp => ⟨hk₁ _ _ (Ns p hp).1, Nat.ne_of_lt (Heap.lt_size (Ns p hp).1), hideAll_none _ (List.mem_map_of_mem hp)⟩) BG (X₀.keeps fun b o e => st b o e) (T.keeps fun b o e => st b o e) (fun p hp => Heap.lt_size (Ns p hp).1) (fun p hp hn => hideAll_get _ (N p hp).1 hn)) (fun fl s' hl => ?_) fun _ _ y => y.elim
  exact ends_back F N hs ret ⟨h₁, _, rfl⟩ hl

theorem enterCC (B : Below A₀ base outer h₀) (F : Fr h₀ L s.heap m) (X₀ : K.In h₀) (N : News h₀ L s.heap news) (T : Top lawQ lawLoose mean mg mb h₀) (hA : A.frames = some (env :: outer)) (hf : env.frame = some L) (hke : env.scope.kind = .function)
    (hs : ∀ p ∈ sub, p ∈ news)
    (ho : K.lookup f = some ⟨oc, od, .func (fnOf name qual params body scope dV kV doc pm an cdv ct), osl⟩) (hcd : codeIn K cdv qual = true) (hroom : A.depth < recursionLimit)
    (hbind : BindsTo s (fnOf name qual params body scope dV kV doc pm an cdv ct) ⟨args, []⟩ binds) (hkind : (binds.all fun y => scope.names.lookup y.1 == some .local || scope.names.lookup y.1 == some .cell) = true)
    (hnd : ((cellsFrom 0 scope.names []).map (·.1)).Nodup)
    (ret : ∀ v new h' tk', Fr h₀ L h' m → News h₀ L h' (new ++ news) → (∀ q ∈ news, ∀ p ∈ new, p.1 ≠ q.1) → P v new → Q v { s with heap := h', toks := tk' })
    (h : ∀ g L' h₁ gs dr tk os cells, Fr g L' h₁ (bindL (envOfC qual scope L' f cdv).kindOf binds fun _ => none) → News g L' h₁ (cells ++ sub) →
      CellsAre (bindC (envOfC qual scope L' f cdv).kindOf binds fun _ => none) (cellsFrom (L' + 1) scope.names []) cells → Below A base (env :: outer) g → K.In g → Top lawQ lawLoose mean mg mb g → (∀ p ∈ sub, p.1 < L') →
      wpAny (model prog w) (A.deeper (envOfC qual scope L' f cdv)) (execs body (envOfC qual scope L' f cdv)) (fun fl s' => Ends g sub P (match fl with | .ret v => v | _ => .none) ⟨h₁, gs, dr, tk, os⟩ s') (fun _ _ => False) ⟨h₁, gs, dr, tk, os⟩)
    (hco : scope.isCoroutine = false) (hgen : scope.isGenerator = false) (hk : scope.kind = .function) : wpAny (model prog w) A (call (.ref f) args) Q E s := by
  have Ns : News h₀ L s.heap sub := fun p hp => N p (hs p hp)
  obtain ⟨FG, BG, st, _⟩ := groundX (R := fun _ _ => True) B F Ns hA hf hke
  refine wpAny_call (codeAny_call_function hroom ((X₀.keeps F.keep) _ _ ho) rfl hco hgen rfl (codeRec_of (X₀.keeps F.keep) hcd) (hbind _ _ _ _ ?_))
  refine wpAny_newFunctionEnv_cells hk (kindsX hkind _) fun env' he s' x => ?_
  subst he
  refine ⟨(T.nolimit.keeps F.keep).keeps x.toInCall.keep, codeAny_func ?_⟩
  obtain ⟨h₁, tk, rfl, _⟩ := x.done
  have hk₁ := x.toInCall.keep
  obtain ⟨cells, NC, Y⟩ := Cl.news (h₀ := s.heap) (Nat.le_refl _) fun n c hm => ⟨x.cell n c (lookup_of_mem_nodup (cellsFrom_names scope.names 0 (s.heap.objs.size + 1) [] [] rfl ▸ hnd) hm), x.above n c hm⟩
  refine wpAny_mono (h (hideAll s.heap (sub.map (·.1))) s.heap.objs.size h₁ s.gens s.drawn tk s.os cells ⟨x.toInCall.ns, fun b o e => hk₁ b o (of_hideAll _ e), Nat.le_of_eq (hideAll_size _ _)⟩ (fun p hp => ?_) Y BG (X₀.keeps fun b o e => st b o e) (T.keeps fun b o e => st b o e) (fun p hp => Heap.lt_size (Ns p hp).1)) (fun fl s' hl => ?_) fun _ _ y => y.elim
  · rcases List.mem_append.mp hp with hp | hp
    · refine ⟨(NC p hp).1, (NC p hp).2.1, ?_⟩
      cases q : (hideAll s.heap (sub.map (·.1))).get? p.1 with
      | none => rfl
      | some o => have := of_hideAll _ q; rw [(NC p hp).2.2] at this; cases this
    · exact ⟨hk₁ _ _ (Ns p hp).1, Nat.ne_of_lt (Heap.lt_size (Ns p hp).1), hideAll_none _ (List.mem_map_of_mem hp)⟩
  · exact ends_back F N hs ret ⟨h₁, tk, rfl⟩ hl
end
/-- what each new object is not -/
def OffP : List (Addr × Obj) → Addr → Prop
  | [], _ => True
  | [p], a => p.1 ≠ a
  | p :: q :: r, a => p.1 ≠ a ∧ OffP (q :: r) a
def OffN (new : List (Addr × Obj)) : List (Addr × Obj) → Prop
  | [] => True
  | q :: r => OffP new q.1 ∧ OffN new r
theorem OffP.of {a : Addr} : ∀ {l : List (Addr × Obj)}, (∀ p ∈ l, p.1 ≠ a) → OffP l a
  | [], _ => trivial
  | [p], h => h p (List.Mem.head _)
  | p :: q :: r, h => ⟨h p (List.Mem.head _), OffP.of fun x hx => h x (List.Mem.tail _ hx)⟩
theorem OffN.of {new : List (Addr × Obj)} : ∀ {l : List (Addr × Obj)}, (∀ q ∈ l, ∀ p ∈ new, p.1 ≠ q.1) → OffN new l
  | [], _ => trivial
  | q :: _, h => ⟨OffP.of (h q (List.Mem.head _)), OffN.of fun x hx => h x (List.Mem.tail _ hx)⟩
theorem Spec.use {w : World} {K : Frag} {f : Addr} {args : List Value} {sub news : List (Addr × Obj)} {n : Nat} {P : Value → List (Addr × Obj) → Prop}
    {dp un : Nat} {gd : Option (List Code)} {cn : Str} {cs : Scope} {a : Addr} {ccd : Value} {cl : List (Str × Addr)} {outer : List Env} {A₀ : Around} {base h₀ hp : Heap} {L : Addr} {m mg mb : Str → Option Value} {mean : ExcName → Option Value} {gs : Array GenState} {dr : Drawn} {tk : Nat} {os : OsState} {Q E : Value → Shared → Prop}
    (C : Spec w K f args sub n P)
    (B : Below A₀ base outer h₀) (F : Fr h₀ L hp m) (X : K.In h₀) (N : News h₀ L hp news) (T : Top lawQ lawLoose mean mg mb h₀) (hk : cs.kind = .function) (hs : ∀ p ∈ sub, p ∈ news) (hd : dp + n < recursionLimit) (hu : un + 8 * n < cLine)
    (ret : ∀ v new h' tk', Fr h₀ L h' m → News h₀ L h' (new ++ news) → (∀ q ∈ news, ∀ p ∈ new, p.1 ≠ q.1) → P v new → Q v ⟨h', gs, dr, tk', os⟩) :
    wpAny (model PySem.Challenge.pw_pc0142_01 w) (ktrTop dp un gd cn cs L a ccd cl outer) (call (.ref f) args) Q E ⟨hp, gs, dr, tk, os⟩ :=
  C _ _ _ _ _ _ _ _ _ _ _ _ _ _ _ _ _ _ ⟨hp, gs, dr, tk, os⟩ _ _ B F X N T hk hs hd hu ret
theorem Spec.use0 {w : World} {K : Frag} {f : Addr} {args : List Value} {sub news : List (Addr × Obj)} {n : Nat} {V : Tok → Value}
    {dp un : Nat} {gd : Option (List Code)} {cn : Str} {cs : Scope} {a : Addr} {ccd : Value} {cl : List (Str × Addr)} {outer : List Env} {A₀ : Around} {base h₀ hp : Heap} {L : Addr} {m mg mb : Str → Option Value} {mean : ExcName → Option Value} {gs : Array GenState} {dr : Drawn} {tk : Nat} {os : OsState} {Q E : Value → Shared → Prop}
    (C : Spec w K f args sub n (fun v new => new = [] ∧ ∃ t, v = V t))
    (B : Below A₀ base outer h₀) (F : Fr h₀ L hp m) (X : K.In h₀) (N : News h₀ L hp news) (T : Top lawQ lawLoose mean mg mb h₀) (hk : cs.kind = .function) (hs : ∀ p ∈ sub, p ∈ news) (hd : dp + n < recursionLimit) (hu : un + 8 * n < cLine)
    (ret : ∀ t h' tk', Fr h₀ L h' m → News h₀ L h' news → Q (V t) ⟨h', gs, dr, tk', os⟩) :
    wpAny (model PySem.Challenge.pw_pc0142_01 w) (ktrTop dp un gd cn cs L a ccd cl outer) (call (.ref f) args) Q E ⟨hp, gs, dr, tk, os⟩ :=
  C _ _ _ _ _ _ _ _ _ _ _ _ _ _ _ _ _ _ ⟨hp, gs, dr, tk, os⟩ _ _ B F X N T hk hs hd hu fun _ _ h' tk' F N _ h => by obtain ⟨rfl, t, rfl⟩ := h; exact ret t h' tk' F N
theorem Spec.useN {w : World} {K : Frag} {f : Addr} {args : List Value} {sub news : List (Addr × Obj)} {n : Nat} {V : Value}
    {dp un : Nat} {gd : Option (List Code)} {cn : Str} {cs : Scope} {a : Addr} {ccd : Value} {cl : List (Str × Addr)} {outer : List Env} {A₀ : Around} {base h₀ hp : Heap} {L : Addr} {m mg mb : Str → Option Value} {mean : ExcName → Option Value} {gs : Array GenState} {dr : Drawn} {tk : Nat} {os : OsState} {Q E : Value → Shared → Prop}
    (C : Spec w K f args sub n (fun v new => new = [] ∧ v = V))
    (B : Below A₀ base outer h₀) (F : Fr h₀ L hp m) (X : K.In h₀) (N : News h₀ L hp news) (T : Top lawQ lawLoose mean mg mb h₀) (hk : cs.kind = .function) (hs : ∀ p ∈ sub, p ∈ news) (hd : dp + n < recursionLimit) (hu : un + 8 * n < cLine)
    (ret : ∀ h' tk', Fr h₀ L h' m → News h₀ L h' news → Q V ⟨h', gs, dr, tk', os⟩) :
    wpAny (model PySem.Challenge.pw_pc0142_01 w) (ktrTop dp un gd cn cs L a ccd cl outer) (call (.ref f) args) Q E ⟨hp, gs, dr, tk, os⟩ :=
  C _ _ _ _ _ _ _ _ _ _ _ _ _ _ _ _ _ _ ⟨hp, gs, dr, tk, os⟩ _ _ B F X N T hk hs hd hu fun _ _ h' tk' F N _ h => by obtain ⟨rfl, rfl⟩ := h; exact ret h' tk' F N
theorem Spec.useL {w : World} {K : Frag} {f : Addr} {args : List Value} {sub news : List (Addr × Obj)} {n : Nat} {R1 R2 R3 : List Int → Prop}
    {dp un : Nat} {gd : Option (List Code)} {cn : Str} {cs : Scope} {a : Addr} {ccd : Value} {cl : List (Str × Addr)} {outer : List Env} {A₀ : Around} {base h₀ hp : Heap} {L : Addr} {m mg mb : Str → Option Value} {mean : ExcName → Option Value} {gs : Array GenState} {dr : Drawn} {tk : Nat} {os : OsState} {Q E : Value → Shared → Prop}
    (C : Spec w K f args sub n (fun v new => ∃ l vs k fs, v = .ref l ∧ new = [(l, W.listOf vs.toArray k)] ∧ IntsAre vs fs ∧ R1 fs ∧ R2 fs ∧ R3 fs))
    (B : Below A₀ base outer h₀) (F : Fr h₀ L hp m) (X : K.In h₀) (N : News h₀ L hp news) (T : Top lawQ lawLoose mean mg mb h₀) (hk : cs.kind = .function) (hs : ∀ p ∈ sub, p ∈ news) (hd : dp + n < recursionLimit) (hu : un + 8 * n < cLine)
    (ret : ∀ l vs k fs h' tk', Fr h₀ L h' m → News h₀ L h' ((l, W.listOf vs.toArray k) :: news) → OffN [(l, W.listOf vs.toArray k)] news → IntsAre vs fs → R1 fs → R2 fs → R3 fs → Q (.ref l) ⟨h', gs, dr, tk', os⟩) :
    wpAny (model PySem.Challenge.pw_pc0142_01 w) (ktrTop dp un gd cn cs L a ccd cl outer) (call (.ref f) args) Q E ⟨hp, gs, dr, tk, os⟩ :=
  C _ _ _ _ _ _ _ _ _ _ _ _ _ _ _ _ _ _ ⟨hp, gs, dr, tk, os⟩ _ _ B F X N T hk hs hd hu fun _ _ h' tk' F N o h => by obtain ⟨l, vs, k, fs, rfl, rfl, h0, h1, h2, h3⟩ := h; exact ret l vs k fs h' tk' F N (OffN.of o) h0 h1 h2 h3
theorem Spec.use8 {w : World} {K : Frag} {f : Addr} {args : List Value} {sub news : List (Addr × Obj)} {n : Nat} {C₀ : Addr} {R1 R2 : List DictEntry → Prop} {R3 : Addr → Addr → List DictEntry → Nat → Prop}
    {dp un : Nat} {gd : Option (List Code)} {cn : Str} {cs : Scope} {a : Addr} {ccd : Value} {cl : List (Str × Addr)} {outer : List Env} {A₀ : Around} {base h₀ hp : Heap} {L : Addr} {m mg mb : Str → Option Value} {mean : ExcName → Option Value} {gs : Array GenState} {dr : Drawn} {tk : Nat} {os : OsState} {Q E : Value → Shared → Prop}
    (C : Spec w K f args sub n (fun v new => ∃ x dx es k, v = .ref x ∧ new = [(x, instObj C₀ dx), (dx, dictOf es k)] ∧ R1 es ∧ R2 es ∧ R3 x dx es k))
    (B : Below A₀ base outer h₀) (F : Fr h₀ L hp m) (X : K.In h₀) (N : News h₀ L hp news) (T : Top lawQ lawLoose mean mg mb h₀) (hk : cs.kind = .function) (hs : ∀ p ∈ sub, p ∈ news) (hd : dp + n < recursionLimit) (hu : un + 8 * n < cLine)
    (ret : ∀ x dx es k h' tk', Fr h₀ L h' m → News h₀ L h' ((x, instObj C₀ dx) :: (dx, dictOf es k) :: news) → OffN [(x, instObj C₀ dx), (dx, dictOf es k)] news → R1 es → R2 es → R3 x dx es k → Q (.ref x) ⟨h', gs, dr, tk', os⟩) :
    wpAny (model PySem.Challenge.pw_pc0142_01 w) (ktrTop dp un gd cn cs L a ccd cl outer) (call (.ref f) args) Q E ⟨hp, gs, dr, tk, os⟩ :=
  C _ _ _ _ _ _ _ _ _ _ _ _ _ _ _ _ _ _ ⟨hp, gs, dr, tk, os⟩ _ _ B F X N T hk hs hd hu fun _ _ h' tk' F N o h => by obtain ⟨x, dx, es, k, rfl, rfl, h1, h2, h3⟩ := h; exact ret x dx es k h' tk' F N (OffN.of o) h1 h2 h3
theorem Spec.use1 {w : World} {K : Frag} {f : Addr} {args : List Value} {sub news : List (Addr × Obj)} {n : Nat} {O : Tok → Obj}
    {dp un : Nat} {gd : Option (List Code)} {cn : Str} {cs : Scope} {a : Addr} {ccd : Value} {cl : List (Str × Addr)} {outer : List Env} {A₀ : Around} {base h₀ hp : Heap} {L : Addr} {m mg mb : Str → Option Value} {mean : ExcName → Option Value} {gs : Array GenState} {dr : Drawn} {tk : Nat} {os : OsState} {Q E : Value → Shared → Prop}
    (C : Spec w K f args sub n (fun v new => ∃ D t, v = .ref D ∧ new = [(D, O t)]))
    (B : Below A₀ base outer h₀) (F : Fr h₀ L hp m) (X : K.In h₀) (N : News h₀ L hp news) (T : Top lawQ lawLoose mean mg mb h₀) (hk : cs.kind = .function) (hs : ∀ p ∈ sub, p ∈ news) (hd : dp + n < recursionLimit) (hu : un + 8 * n < cLine)
    (ret : ∀ D t h' tk', Fr h₀ L h' m → News h₀ L h' ((D, O t) :: news) → OffN [(D, O t)] news → Q (.ref D) ⟨h', gs, dr, tk', os⟩) :
    wpAny (model PySem.Challenge.pw_pc0142_01 w) (ktrTop dp un gd cn cs L a ccd cl outer) (call (.ref f) args) Q E ⟨hp, gs, dr, tk, os⟩ :=
  C _ _ _ _ _ _ _ _ _ _ _ _ _ _ _ _ _ _ ⟨hp, gs, dr, tk, os⟩ _ _ B F X N T hk hs hd hu fun _ _ h' tk' F N o h => by obtain ⟨D, t, rfl, rfl⟩ := h; exact ret D t h' tk' F N (OffN.of o)
theorem Spec.use2 {w : World} {K : Frag} {f : Addr} {args : List Value} {sub news : List (Addr × Obj)} {n : Nat} {O : Tok → Tok → Obj}
    {dp un : Nat} {gd : Option (List Code)} {cn : Str} {cs : Scope} {a : Addr} {ccd : Value} {cl : List (Str × Addr)} {outer : List Env} {A₀ : Around} {base h₀ hp : Heap} {L : Addr} {m mg mb : Str → Option Value} {mean : ExcName → Option Value} {gs : Array GenState} {dr : Drawn} {tk : Nat} {os : OsState} {Q E : Value → Shared → Prop}
    (C : Spec w K f args sub n (fun v new => ∃ D t u, v = .ref D ∧ new = [(D, O t u)]))
    (B : Below A₀ base outer h₀) (F : Fr h₀ L hp m) (X : K.In h₀) (N : News h₀ L hp news) (T : Top lawQ lawLoose mean mg mb h₀) (hk : cs.kind = .function) (hs : ∀ p ∈ sub, p ∈ news) (hd : dp + n < recursionLimit) (hu : un + 8 * n < cLine)
    (ret : ∀ D t u h' tk', Fr h₀ L h' m → News h₀ L h' ((D, O t u) :: news) → OffN [(D, O t u)] news → Q (.ref D) ⟨h', gs, dr, tk', os⟩) :
    wpAny (model PySem.Challenge.pw_pc0142_01 w) (ktrTop dp un gd cn cs L a ccd cl outer) (call (.ref f) args) Q E ⟨hp, gs, dr, tk, os⟩ :=
  C _ _ _ _ _ _ _ _ _ _ _ _ _ _ _ _ _ _ ⟨hp, gs, dr, tk, os⟩ _ _ B F X N T hk hs hd hu fun _ _ h' tk' F N o h => by obtain ⟨D, t, u, rfl, rfl⟩ := h; exact ret D t u h' tk' F N (OffN.of o)
/-- a name for what is to be done with the answer -/
theorem keepQ {M : Model} {A : Around} {α : Type} {m : Sem α} {E : Value → Shared → Prop} {s : Shared} (Q : α → Shared → Prop) (h : wpAny M A m Q E s) : wpAny M A m Q E s := h
theorem room3 {x a b n R : Nat} (hr : x + n < R) (h : a + b ≤ n) : x + a + b < R := Nat.lt_of_le_of_lt (Nat.add_assoc x a b ▸ Nat.add_le_add_left h x) hr
theorem fill_PWK : (PySem.Challenge.rw_pc0142_01, hd.heap_1) = (PySem.Challenge.rw_pc0142_01, hd.heap_1) := by
  w_top off
  k_fill
  rfl
local macro_rules | `(tactic| walk_at $s:str) => `(tactic| k_extra $(Lean.Syntax.mkStrLit ("mine " ++ s.getString)))
local macro_rules | `(tactic| k_get) => `(tactic| k_extra "my get")
local macro_rules | `(tactic| k_ne) => `(tactic| k_extra "my ne")
theorem wd1 : True := by
  k_with_none
  k_with "my fold" => (((first | (with_reducible show wpAny _ _ (exec (PySem.Stmt.Assign _ _ _) _) _ _ _) | (with_reducible show wpAny _ _ (exec (PySem.Stmt.Return _ _) _) _ _ _) | (with_reducible show wpAny _ _ (exec (PySem.Stmt.If _ _ _ _) _) _ _ _) | (with_reducible show wpAny _ _ (exec (PySem.Stmt.Expr _ _) _) _ _ _) | (with_reducible show wpAny _ _ (exec (PySem.Stmt.AugAssign _ _ _ _) _) _ _ _) | (with_reducible show wpAny _ _ (eval (PySem.Expr.BinOp _ _ _ _) _) _ _ _) | (with_reducible show wpAny _ _ (eval (PySem.Expr.Call _ _ _ _) _) _ _ _)); (fail_if_success (fail_if_success k_fold)); refine (let qk := _; keepQ qk ?_)))
  k_with "my get" => (assumption)
  k_with "mine call type:range" => ((k_here; (rename Fr _ _ _ _ => F'); (rename News _ _ _ _ => N'); (with_unfolding_all refine range1_rows F' N' ?_; intro _ _ _ _ _ _ _ _ _)))
  k_with "my steps" => (repeat' (first | ((fail_if_success (fail_if_success k_unfold)); (try dsimp only); refine (?_ : wpAny _ _ _ _ _ _)) | (k_unfold; (try dsimp only)) | k_extra "my fold" | ((fail_if_success (with_reducible show wpAny _ _ (pyIter _) (fun it s₂ => LoopAtV _ _ _ _ _ _ _ _ _ it s₂) _ _)); (fail_if_success (with_reducible show wpAny _ _ (pyIter _) (fun it s₂ => PairAt3 _ _ _ _ _ _ _ _ _ _ it s₂) _ _)); (fail_if_success (with_reducible show LoopStep3 _ _ _ _ _ _ _ _ _ _)); (fail_if_success (with_reducible show InvEndN _ _ _ _ _ _ _)); (fail_if_success (with_reducible show Ends _ _ _ _ _ _)); first | walk1 | (dsimp only; walk1) | (dsimp only; k_unfold; (try dsimp only)))))
  k_with "my plain steps" => (repeat' (first | ((fail_if_success (fail_if_success k_unfold)); (try dsimp only); refine (?_ : wpAny _ _ _ _ _ _)) | (k_unfold; (try dsimp only)) | ((fail_if_success (with_reducible show wpAny _ _ (pyIter _) (fun it s₂ => LoopAtV _ _ _ _ _ _ _ _ _ it s₂) _ _)); (fail_if_success (with_reducible show wpAny _ _ (pyIter _) (fun it s₂ => PairAt3 _ _ _ _ _ _ _ _ _ _ it s₂) _ _)); (fail_if_success (with_reducible show LoopStep3 _ _ _ _ _ _ _ _ _ _)); (fail_if_success (with_reducible show InvEndN _ _ _ _ _ _ _)); (fail_if_success (with_reducible show Ends _ _ _ _ _ _)); first | walk1 | (dsimp only; walk1) | (dsimp only; k_unfold; (try dsimp only)))))
  k_with "my bytes" => (first | exact all48 (by assumption) | (refine all_cons (by decide) ?_; k_extra "my bytes") | (refine all_snoc (by decide) ?_; k_extra "my bytes"))
  k_with "my size" => (first | (first | lia | omega) | ((try simp only [List.length_map, List.length_cons, List.length_append, List.length_nil, List.length_set, List.length_reverse, lits_length, figs_length, stepKs_length]); (first | lia | omega)))
  k_with "mine call type:bytes" => ((k_here; (with_reducible show wpAny _ _ (call (Value.type "bytes") [Value.ref _]) _ _ _); k_dflt (refine' bytesOf_K ?Fq8 ?Nq8 ?mq8 ?iq8 ?rq8 ?zq8 ?hq8 ?_; (case Fq8 => k_asm); (case Nq8 => k_asm); (case mq8 => k_mem); (case iq8 => assumption); (case rq8 => k_extra "my bytes"); (case zq8 => k_extra "my size"); (case hq8 => exact rfl); k_whole); intro h' t' k' F' N'; (try k_sweep)))
  k_with "my bytes" => ((refine all_set (u8_in _) ?_; k_extra "my bytes"))
  k_with "my byte at" => ((refine fig_at (by assumption) ?_; k_extra "my size"))
  k_with "mine subscriptTail" => ((k_here; (with_reducible show wpAny _ _ (subscriptTail _ _ (Value.bytes _ _) (Value.int _ _)) _ _ _); k_dflt (refine' bytesItem_K ?aq11 ?bq11 ?_ ?hsq11 ?htq11; (case aq11 => k_extra "my byte at"); (case bq11 => decide); (case hsq11 => with_unfolding_all rfl); (case htq11 => intro _; with_unfolding_all rfl))))
  k_with "my index" => (first | (first | lia | omega) | decide | assumption)
  k_with "mine compareOp In" => ((k_here; (with_reducible show wpAny _ _ (compareOp CmpOp.In (Value.int _ _) (Value.bytes _ _)) _ _ _); k_dflt (refine' in_bytes ?aq13 ?bq13 ?_; (case aq13 => (first | lia | omega)); (case bq13 => (first | lia | omega)))))
  k_with "mine getMethod" => ((k_here; (with_reducible show wpAny _ _ (getMethod (Value.bytes _ _) "index" _) _ _ _); refine index_method ?_))
  k_with "mine call builtin:bytes.index" => ((k_here; (with_reducible show wpAny _ _ (call (Value.builtin "bytes.index") [Value.bytes _ _, Value.int _ _]) _ _ _); k_dflt (refine' bytes_index _ ?aq15 ?bq15 ?cq15 ?dq15 ?_; (case aq15 => (first | lia | omega)); (case bq15 => (first | lia | omega)); (case cq15 => decide); (case dq15 => assumption)); intro _ _; (try dsimp only)))
  k_with "mine subscriptTail" => ((k_here; (with_reducible show wpAny _ _ (subscriptTail _ _ (Value.bytes (byteArr _) _) (Value.int _ _)) _ _ _); k_dflt (refine' bytesInt_K ?aq16 ?bq16 ?rq16 ?zq16 ?_ ?hsq16 ?htq16; (case aq16 => (first | lia | omega)); (case bq16 => assumption); (case rq16 => first | assumption | k_extra "my bytes"); (case zq16 => k_extra "my size"); (case hsq16 => with_unfolding_all rfl); (case htq16 => intro _; with_unfolding_all rfl)); intro _ _; (try dsimp only)))
  k_with "my pick" => ((with_reducible first | exact kmk_upto (by l_ints) (by (first | lia | omega)) | exact kmk_from (by l_ints) (by (first | lia | omega)) | exact kmk_upto_neg (by l_ints) (by (first | lia | omega)) | exact kmk_from_neg (by l_ints) (by (first | lia | omega))))
  k_with "mine subscriptTail Name Slice ref ref" => ((k_here; (with_reducible show wpAny _ _ (subscriptTail _ (PySem.Expr.Slice _ _ none _) (Value.ref _) (Value.ref _)) _ _ _); k_dflt (refine' kmk_slice_ints ?Fq18 ?Nq18 ?lq18 ?pq18 ?qq18 ?iq18 ?mq18 ?cq18 ?_ ?sq18 ?tq18 ?zq18; (case Fq18 => k_asm); (case Nq18 => k_asm); (case lq18 => kmk_list); (case pq18 => kmk_part); (case qq18 => kmk_part); (case iq18 => l_ints); (case mq18 => k_extra "my pick"); (case cq18 => kmk_len); (case sq18 => with_unfolding_all rfl); (case tq18 => kmk_pure); (case zq18 => kmk_size)); intro D' ws' h' F' N' l1 hI' hC' hL'; (try k_lt l1); (try k_sweep)))
  k_with "my ints" => (first | l_ints | exact IntsAre.cons _ _ IntsAre.nil | exact IntsAre.cons _ _ (IntsAre.cons _ _ IntsAre.nil))
  k_with "mine binaryOp Add ref ref" => ((k_here; (with_reducible show wpAny _ _ (binaryOp _ (Value.ref _) (Value.ref _)) _ _ _); k_dflt (refine' kmk_add_ints ?Fq20 ?Nq20 ?aq20 ?bq20 ?iq20 ?jq20 ?_ ?zq20; (case Fq20 => k_asm); (case Nq20 => k_asm); (case aq20 => kmk_list); (case bq20 => kmk_list); (case iq20 => k_extra "my ints"); (case jq20 => k_extra "my ints"); (case zq20 => first | ((simp only [sizeLine_eq]); k_extra "my size") | kmk_sum)); intro D' ws' h' F' N' l1 hI'; (try k_lt l1); (try k_sweep)))
  k_with "mine call builtin:len" => ((k_here; (with_reducible show wpAny _ _ (call (Value.builtin "len") [Value.bytes (byteArr _) _]) _ _ _); k_dflt (refine' len_byteArr ?zq21 ?_; (case zq21 => k_extra "my size")); intro _ _; (try dsimp only)))
  k_with "mine call builtin:ord" => ((k_here; (with_reducible show wpAny _ _ (call (Value.builtin "ord") [Value.str _ _]) _ _ _); refine ord_of_char ?_; (try dsimp only)))
  k_with "my text slice" => (((with_reducible rename Fr _ _ _ _ => F'); (with_reducible rename News _ _ _ _ => N'); first | ((with_reducible show wpAny _ _ (subscriptTail _ (Expr.Slice none (some _) none _) _ _) _ _ _); (refine slice_strN_ns_len (hsz := ?hszq23) (s := ⟨_, _, _, _, _⟩) F' N' ?_); (case hszq23 => rw [sizeLine_eq]; (first | lia | omega))) | ((with_reducible show wpAny _ _ (subscriptTail _ (Expr.Slice (some _) none none _) _ _) _ _ _); (refine slice_strN_sn_len (hsz := ?hszq23) (s := ⟨_, _, _, _, _⟩) F' N' ?_); (case hszq23 => rw [sizeLine_eq]; (first | lia | omega)))))
  k_with "my units" => (((try simp only [units_in1, units_deeper, Around.mark_units]); (try dsimp only [ktrTop]); (first | lia | omega)))
  k_with "my tail" => ((first | assumption | (refine' And.right ?_; first | assumption | (refine' And.right ?_; first | assumption | (refine' And.right ?_; first | assumption | (refine' And.right ?_; first | assumption | (refine' And.right ?_; first | assumption | (refine' And.right ?_; first | assumption | (refine' And.right ?_; first | assumption | (refine' And.right ?_; first | assumption | (refine' And.right ?_; assumption)))))))))))
  k_with "my conj" => (first | k_extra "my tail" | (refine' And.left ?_; k_extra "my tail") | (refine' And.left ?_; refine' And.left ?_; k_extra "my tail") | (refine' And.right ?_; refine' And.left ?_; k_extra "my tail"))
  k_with "my ne" => ((refine neN ?_; (try dsimp only); first | (refine' Nat.ne_of_lt ?_; k_extra "my conj") | (refine' Nat.ne_of_gt ?_; k_extra "my conj") | k_extra "my conj" | (refine' Ne.symm ?_; k_extra "my conj") | (first | lia | omega)))
  k_with "my sides" => (((case k1 => k_asm); (case k2 => k_asm); (case k3 => k_asm); (case k4 => k_asm); (case k5 => k_asm); (case kK => first | assumption | exact rfl); (case ks => kcj_all); (case kd => first | ((try simp only [depth_mark, depth_under_make, depth_under_kw, depth_in1, depth_deeper]); (try dsimp only [ktrTop]); first | (refine' room3 ?hhq28 ?llq28; (case hhq28 => assumption); (case llq28 => exact Nat.le_of_ble_eq_true rfl)) | (first | lia | omega)) | (with_unfolding_all exact Nat.le_of_ble_eq_true rfl)); (case ku => first | ((try simp only [units_in1, units_deeper, Around.mark_units]); (try dsimp only [ktrTop]); first | (refine' room3 ?hhq28 ?llq28; (case hhq28 => assumption); (case llq28 => exact Nat.le_of_ble_eq_true rfl)) | (first | lia | omega)) | (with_unfolding_all exact Nat.le_of_ble_eq_true rfl))))
  trivial
section
/-- what is left of a test that was walked by itself -/
def CutB (h₀ : Heap) (L : Addr) (m : Str → Option Value) (news : List (Addr × Obj)) (b : Bool) (s : Shared) (ok : Bool) (s' : Shared) : Prop :=
  ∃ h' k, ok = b ∧ s' = { s with heap := h', toks := k } ∧ Fr h₀ L h' m ∧ News h₀ L h' news
theorem CutB.intro {h₀ h' : Heap} {L : Addr} {m : Str → Option Value} {news nw : List (Addr × Obj)} {b ok : Bool} {h5 : Heap} {g5 : Array GenState} {d5 : Drawn} {t5 : Nat} {o5 : OsState} {k : Nat} (F : Fr h₀ L h' m) (N : News h₀ L h' nw) (hs : ∀ p ∈ news, p ∈ nw) (hv : ok = b) : CutB h₀ L m news b ⟨h5, g5, d5, t5, o5⟩ ok ⟨h', g5, d5, k, o5⟩ :=
  ⟨h', k, hv, rfl, F, fun p hp => N p (hs p hp)⟩
theorem cut_true {prog : Program} {w : World} {A : Around} {E : Value → Shared → Prop} {h5 : Heap} {g5 : Array GenState} {d5 : Drawn} {t5 : Nat} {o5 : OsState} {h₀ : Heap} {L : Addr} {m : Str → Option Value} {news : List (Addr × Obj)} {Q : Bool → Shared → Prop} {t : Sem Bool} (b : Bool) (_ : Fr h₀ L h5 m) (_ : News h₀ L h5 news)
    (h : wpAny (model prog w) A t (CutB h₀ L m news b ⟨h5, g5, d5, t5, o5⟩) (fun _ _ => False) ⟨h5, g5, d5, t5, o5⟩)
    (k : ∀ h' k, Fr h₀ L h' m → News h₀ L h' news → Q b ⟨h', g5, d5, k, o5⟩) : wpAny (model prog w) A t Q E ⟨h5, g5, d5, t5, o5⟩ :=
  wpAny_mono h (fun v s' hq => by obtain ⟨h', k', rfl, rfl, F, N⟩ := hq; exact k h' k' F N) fun _ _ f => f.elim
/-- what is left of a statement that was walked by itself: one name is stored -/
def CutE (h₀ : Heap) (L : Addr) (m : Str → Option Value) (news : List (Addr × Obj)) (nm : Str) (V : Tok → Value) (s : Shared) (f : Flow) (s' : Shared) : Prop :=
  ∃ t h' k, f = .next ∧ s' = { s with heap := h', toks := k } ∧ Fr h₀ L h' (fun y => if y = nm then some (V t) else m y) ∧ News h₀ L h' news
theorem CutE.intro {h₀ h' : Heap} {L : Addr} {m m' : Str → Option Value} {news nw : List (Addr × Obj)} {nm : Str} {V : Tok → Value} {h5 : Heap} {g5 : Array GenState} {d5 : Drawn} {t5 : Nat} {o5 : OsState} {k : Nat} {t : Tok} (F : Fr h₀ L h' m') (N : News h₀ L h' nw) (hs : ∀ p ∈ news, p ∈ nw) (hm : m' = fun y => if y = nm then some (V t) else m y) : CutE h₀ L m news nm V ⟨h5, g5, d5, t5, o5⟩ .next ⟨h', g5, d5, k, o5⟩ :=
  ⟨t, h', k, rfl, rfl, hm ▸ F, fun p hp => N p (hs p hp)⟩
theorem cut_stmt {prog : Program} {w : World} {A : Around} {E : Value → Shared → Prop} {h5 : Heap} {g5 : Array GenState} {d5 : Drawn} {t5 : Nat} {o5 : OsState} {h₀ : Heap} {L : Addr} {m : Str → Option Value} {news : List (Addr × Obj)} {Q : Flow → Shared → Prop} {x : Sem Flow} (nm : Str) (V : Tok → Value) (_ : Fr h₀ L h5 m) (_ : News h₀ L h5 news)
    (h : wpAny (model prog w) A x (CutE h₀ L m news nm V ⟨h5, g5, d5, t5, o5⟩) (fun _ _ => False) ⟨h5, g5, d5, t5, o5⟩)
    (k : ∀ t h' k, Fr h₀ L h' (fun y => if y = nm then some (V t) else m y) → News h₀ L h' news → Q .next ⟨h', g5, d5, k, o5⟩) : wpAny (model prog w) A x Q E ⟨h5, g5, d5, t5, o5⟩ :=
  wpAny_mono h (fun v s' hq => by obtain ⟨t, h', k', rfl, rfl, F, N⟩ := hq; exact k t h' k' F N) fun _ _ f => f.elim
/-- what is left of an expression that was walked by itself: its value (V), and all that stood before -/
def CutEnd (h₀ : Heap) (L : Addr) (m : Str → Option Value) (news : List (Addr × Obj)) (V : Value → Prop) (s : Shared) (v : Value) (s' : Shared) : Prop :=
  ∃ h' k, V v ∧ s' = { s with heap := h', toks := k } ∧ Fr h₀ L h' m ∧ News h₀ L h' news
theorem CutEnd.intro {h₀ h' : Heap} {L : Addr} {m : Str → Option Value} {news nw : List (Addr × Obj)} {V : Value → Prop} {h5 : Heap} {g5 : Array GenState} {d5 : Drawn} {t5 : Nat} {o5 : OsState} {v : Value} {k : Nat} (F : Fr h₀ L h' m) (N : News h₀ L h' nw) (hs : ∀ p ∈ news, p ∈ nw) (hv : V v) : CutEnd h₀ L m news V ⟨h5, g5, d5, t5, o5⟩ v ⟨h', g5, d5, k, o5⟩ :=
  ⟨h', k, hv, rfl, F, fun p hp => N p (hs p hp)⟩
theorem cut_at {prog : Program} {w : World} {A : Around} {E : Value → Shared → Prop} {h5 : Heap} {g5 : Array GenState} {d5 : Drawn} {t5 : Nat} {o5 : OsState} {h₀ : Heap} {L : Addr} {m : Str → Option Value} {news : List (Addr × Obj)} {Q : Value → Shared → Prop} {e : PySem.Expr} {env : Env} (V : Value → Prop) (_ : Fr h₀ L h5 m) (_ : News h₀ L h5 news)
    (h : wpAny (model prog w) A (eval e env) (CutEnd h₀ L m news V ⟨h5, g5, d5, t5, o5⟩) (fun _ _ => False) ⟨h5, g5, d5, t5, o5⟩)
    (k : ∀ v h' k, V v → Fr h₀ L h' m → News h₀ L h' news → Q v ⟨h', g5, d5, k, o5⟩) : wpAny (model prog w) A (eval e env) Q E ⟨h5, g5, d5, t5, o5⟩ :=
  wpAny_mono h (fun v s' hq => by obtain ⟨h', k', hv, rfl, F, N⟩ := hq; exact k v h' k' hv F N) fun _ _ f => f.elim
theorem stored_same {m : Str → Option Value} {nm : Str} {u : Option Value} (h : m nm = u) : m = fun y => if y = nm then u else m y := by
  funext y
  by_cases e : y = nm
  · rw [if_pos e, e, h]
  · rw [if_neg e]
inductive CutMark : Prop
  | mk : CutMark
def Held (p : Prop) : Prop := p
theorem Held.mk {p : Prop} (h : Held p) : p := h
end
section
theorem nat1 (n : Nat) : ((n : Int) - 1).toNat = n - 1 := Int.toNat_sub n 1
theorem nat2 (n : Nat) : (2 * (n : Int) - 1).toNat = 2 * n - 1 := Int.toNat_sub (2 * n) 1
theorem abs_nn (u : Int) : 0 ≤ if u < 0 then -u else u := by
  split
  · exact Int.neg_nonneg_of_nonpos (Int.le_of_lt (by assumption))
  · exact Int.not_lt.mp (by assumption)
theorem down_nat {size i : Nat} (h : i < size) : ((size : Int) - 1 + (i : Int) * -1).toNat = size - 1 - i := by
  have e : (size : Int) - 1 + (i : Int) * -1 = ((size - 1 : Nat) : Int) - (i : Int) := by
    rw [Int.mul_neg, Int.mul_one, ← Int.sub_eq_add_neg, Int.natCast_sub (Nat.le_trans (Nat.succ_le_succ (Nat.zero_le i)) h)]; rfl
  rw [e]; exact Int.toNat_sub _ _
theorem abs_lt {u : Int} {D : Nat} (h : u.natAbs < D) : -(D : Int) < u ∧ u < (D : Int) := by (first | lia | omega)
/-- c figures of n to the base b, the greatest first -/
def figs (b : Nat) : Nat → Nat → List Nat
  | 0, _ => []
  | c + 1, n => figs b c (n / b) ++ [n % b]
/-- the same, the least first -/
def lits (b : Nat) : Nat → Nat → List Nat
  | 0, _ => []
  | c + 1, n => (n % b) :: lits b c (n / b)
theorem figs_lits {b : Nat} : ∀ c n, figs b c n = (lits b c n).reverse
  | 0, _ => rfl
  | c + 1, n => by rw [figs, lits, List.reverse_cons, figs_lits c (n / b)]
theorem lits_length {b : Nat} : ∀ c n, (lits b c n).length = c
  | 0, _ => rfl
  | c + 1, n => by rw [lits, List.length_cons, lits_length]
theorem figs_length {b : Nat} (c n : Nat) : (figs b c n).length = c := by rw [figs_lits, List.length_reverse, lits_length]
theorem lits_snoc {b : Nat} : ∀ c n, lits b (c + 1) n = lits b c n ++ [n / b ^ c % b]
  | 0, n => by simp [lits]
  | c + 1, n => by
    rw [lits, lits_snoc c (n / b), lits, List.cons_append, Nat.div_div_eq_div_mul, Nat.pow_succ, Nat.mul_comm (b ^ c) b]
theorem figs_lt {b : Nat} (hb : 0 < b) : ∀ c n, ∀ d ∈ figs b c n, d < b
  | 0, _, _, h => by cases h
  | c + 1, n, d, h => by
    rw [figs, List.mem_append] at h
    rcases h with h | h
    · exact figs_lt hb c _ d h
    · rw [List.mem_singleton.mp h]; exact Nat.mod_lt _ hb
def kept (d : Nat) (sg : Bool) (u : Int) : Int := if u < 0 ∧ sg = true then 0 - ((u.natAbs % 10 ^ d : Nat) : Int) else ((u.natAbs % 10 ^ d : Nat) : Int)
theorem abs_mod (u : Int) (d : Nat) : (if u < 0 then -u else u).fmod (10 ^ d) = ((u.natAbs % 10 ^ d : Nat) : Int) := by
  have e : (if u < 0 then -u else u) = (u.natAbs : Int) := by split <;> (first | lia | omega)
  have h : (0 : Int) ≤ 10 ^ d := Int.le_of_lt (Int.pow_pos (by decide))
  rw [e, Int.fmod_eq_emod_of_nonneg _ h, Int.natCast_emod, Int.natCast_pow]
  rfl
theorem kept_neg {u : Int} {d : Nat} {sg : Bool} (h1 : u < 0) (h2 : sg = true) : 0 - (if u < 0 then -u else u).fmod (10 ^ d) = kept d sg u := by
  rw [abs_mod, kept, if_pos ⟨h1, h2⟩]
theorem kept_plain {u : Int} {d : Nat} {sg : Bool} (h2 : sg = false) : (if u < 0 then -u else u).fmod (10 ^ d) = kept d sg u := by
  rw [abs_mod, kept, if_neg (by simp [h2])]
theorem kept_pos {u : Int} {d : Nat} {sg : Bool} (h1 : ¬ u < 0) : (if u < 0 then -u else u).fmod (10 ^ d) = kept d sg u := by
  rw [abs_mod, kept, if_neg (fun h => h1 h.1)]
end
section
theorem unit_bound_spec (w : World) (x dx : Addr) (es : List DictEntry) (n d : Nat) (t : Tok) (hdig : getL "digits" es = some (some (.int d t))) (h1 : d ≤ 18) :
    Spec w (hd.heap_1 w.params) 122 [.ref x] [(x, instObj 111 dx), (dx, dictOf es n)] 1 (fun v new => new = [] ∧ ∃ t, v = .int (10 ^ d) t) := by
  unfold Spec
  intro dp un gd cn cs a ccd cl outer A₀ base h₀ L m mg mb mean news s Q E B F X N T hk hs hroom hun ret
  refine enterC (binds := [(Str.ofString "shape", .ref x)]) B F X N T rfl rfl hk hs (by k_is) (by k_is) (by show _ < recursionLimit; simp only [ktrTop]; (first | lia | omega)) (BindsTo.of_eq rfl) (locs rfl) ret ?_ rfl rfl rfl (by decide)
  clear B F X N T ret hs
  intro g L' h₁ gs5 dr5 tk os5 F' N' B' X' T' l1
  (try dsimp only)
  k_fold
  k_steps
  refine Ends.plain (by k_asm) (by k_asm) (by kcj_all) ⟨rfl, ?_⟩
  trace_state
  exact ⟨_, rfl⟩
end
section
theorem room_ok {dp n : Nat} (h : dp + (n + 1) < recursionLimit) : dp < recursionLimit := by (first | lia | omega)
theorem figs_turn {N : Nat} {rest : Int} {found : List Int} {k : Nat} (h : rest = ((N / 10 ^ k : Nat) : Int) ∧ found = (lits 10 k N).map Int.ofNat) :
    rest.fdiv 10 = ((N / 10 ^ (k + 1) : Nat) : Int) ∧ found ++ [rest.fmod 10] = (lits 10 (k + 1) N).map Int.ofNat := by
  obtain ⟨rfl, rfl⟩ := h
  rw [lits_snoc, Nat.pow_succ, ← Nat.div_div_eq_div_mul]
  refine ⟨?_, ?_⟩
  · rw [Int.fdiv_eq_ediv_of_nonneg _ (by decide)]; rfl
  · rw [List.map_append, Int.fmod_eq_emod_of_nonneg _ (by decide)]; rfl
theorem name1 {h₀ h : Heap} {L D : Addr} {o : Obj} {r : List (Addr × Obj)} (_ : News h₀ L h ((D, o) :: r)) : ∃ D', D' = D := ⟨D, rfl⟩
theorem name2 {h₀ h : Heap} {L T D : Addr} {o o' : Obj} {r : List (Addr × Obj)} (_ : News h₀ L h ((T, o) :: (D, o') :: r)) : ∃ D', D' = D := ⟨D, rfl⟩
theorem figures_for_spec (w : World) (N c : Nat) (t1 t2 : Tok) (hc : c ≤ 20) :
    Spec w (hd.heap_1 w.params) 198 [.int N t1, .int c t2] [] 1 (fun v new => ∃ l vs n, v = .ref l ∧ new = [(l, listOf vs.toArray n)] ∧ IntsAre vs ((figs 10 c N).map Int.ofNat)) := by
  unfold Spec
  intro dp un gd cn cs a ccd cl outer A₀ base h₀ L m mg mb mean news s Q E B F X N0 T hk hs hroom hun ret
  refine enterC (binds := [(Str.ofString "number", .int N t1), (Str.ofString "count", .int c t2)]) B F X N0 T rfl rfl hk hs (by k_is) (by k_is) (room_ok hroom) (BindsTo.of_eq rfl) (locs rfl) ret ?_ rfl rfl rfl (by decide)
  clear B F X N0 T ret hs
  intro g L' h₁ gs5 dr5 tk os5 F' N' B' X' T' l1
  (try dsimp only)
  k_fold
  k_extra "my steps"
  rename IsRange _ _ _ _ _ _ _ _ => hR
  rename Fr _ _ _ _ => hF
  rename News _ _ _ _ => hN
  obtain ⟨l, rfl⟩ := name2 hN
  have hN2 := cb_drop (news := [(l, listOf #[] 0)]) hN (by kcj_all)
  clear hN
  refine kst_range (σ := List Value × Nat × Int × Tok) (fun c => [(l, listOf c.1.toArray c.2.1)]) (fun c => [(Str.ofString "rest", .int c.2.2.1 c.2.2.2)]) (fun _ => True) []
    (fun pre c => IntsAre c.1 ((lits 10 pre.length N).map Int.ofNat) ∧ c.2.2.1 = ((N / 10 ^ pre.length : Nat) : Int)) ([], 0, (N : Int), t1) rfl hR (small_one (by (first | lia | omega)) (by (first | lia | omega)) (by (first | lia | omega)) (by (first | lia | omega))) (rangeSize_nat _ _) hF hN2 trivial (by kst_all) ⟨.nil, by simp⟩ ?_ ?_
  · intro c pre k t u h tk own hk1 hlt hoff _ hP F₁ N₁
    obtain ⟨vs, n, rest, tr⟩ := c
    obtain ⟨hi, hr⟩ := hP
    dsimp only at hi hr F₁ N₁
    have hlen : vs.length ≤ 20 := by have := hi.length; rw [List.length_map, lits_length] at this; (first | lia | omega)
    clear hF hN2 hR
    have hMk := kstMark
    simp only [List.cons_append, List.nil_append] at N₁
    show wpAny _ _ _ _ _ _
    k_fold
    k_extra "my steps"
    refine kst_end (_, _, _, _) (by assumption) (by assumption) (by kst_in) (by first | (intro p hp; kst_mem) | kst_anyIn) (by rfl) trivial (by kst_all) ?_ ?_
    · intro z h1 h2 h3
      have h4 := h2 _ (List.Mem.head _)
      dsimp only at h4
      simp [kstB, h1, h4]
    · dsimp only
      rw [List.length_append, List.length_singleton]
      obtain ⟨e1, e2⟩ := figs_turn (N := N) (k := pre.length) ⟨hr, rfl⟩
      rw [← e2, e1]
      exact ⟨by rw [List.concat_eq_append]; exact hi.append (.cons _ _ .nil), rfl⟩
  · intro c u h tk _ hP F₁ N₁
    obtain ⟨vs, n, rest, tr⟩ := c
    obtain ⟨hi, hr⟩ := hP
    dsimp only at hi hr F₁ N₁
    have hlen : vs.length ≤ 20 := by have := hi.length; rw [List.length_map, lits_length, rangeKs_length] at this; (first | lia | omega)
    clear hF hN2 hR
    (try dsimp only)
    (try k_fold)
    have hMk := kstMark
    k_extra "my steps"
    rename IntsAre _ (List.reverse _) => hv
    rw [rangeKs_length, Int.sub_zero, Int.toNat_natCast, ← List.map_reverse, ← figs_lits] at hv
    refine Ends.intro [_] (by assumption) (by assumption) (by kcj_all) (by kcj_all) (fun _ h => nomatch h) ⟨_, _, _, rfl, rfl, hv⟩
theorem figures_for_int (w : World) (x c : Int) (t1 t2 : Tok) (hx : 0 ≤ x) (hc0 : 0 ≤ c) (hc : c ≤ 20) :
    Spec w (hd.heap_1 w.params) 198 [.int x t1, .int c t2] [] 1 (fun v new => ∃ l vs n fs, v = .ref l ∧ new = [(l, listOf vs.toArray n)] ∧ IntsAre vs fs ∧ (fs.length : Int) = c ∧ (∀ f ∈ fs, 0 ≤ f ∧ f ≤ 9) ∧ fs = (figs 10 c.toNat x.toNat).map Int.ofNat) := by
  have h := figures_for_spec w x.toNat c.toNat t1 t2 (by (first | lia | omega))
  rw [Int.toNat_of_nonneg hx, Int.toNat_of_nonneg hc0] at h
  intro dp un gd cn cs a ccd cl outer A₀ base h₀ L m mg mb mean news s Q E B F X N0 T hk hs hroom hun ret
  refine h _ _ _ _ _ _ _ _ _ _ _ _ _ _ _ _ _ _ _ _ _ B F X N0 T hk hs hroom hun ?_
  rintro v new h' tk' F' N' hne ⟨l, vs, n, e1, e2, hI⟩
  refine ret v new h' tk' F' N' hne ⟨l, vs, n, _, e1, e2, hI, ?_, ?_, rfl⟩
  · rw [List.length_map, figs_length]; (first | lia | omega)
  · intro f hf
    obtain ⟨d, hd, rfl⟩ := List.mem_map.mp hf
    have := figs_lt (by decide) _ _ d hd
    exact ⟨Int.natCast_nonneg d, by show (d : Int) ≤ 9; (first | lia | omega)⟩
end
theorem wd2 : True := by
  k_with "mine call ref" => ((k_here; (with_reducible show wpAny _ _ (call (Value.ref 122) _) _ _ _); k_dflt (refine' Spec.use0 (unit_bound_spec _ _ _ _ _ _ _ ?c0q29 ?c1q29) ?k1 ?k2 ?k3 ?k4 ?k5 ?kK ?ks ?kd ?ku ?_; (case c0q29 => assumption); (case c1q29 => (first | lia | omega)); k_extra "my sides"; intro t' h' tk' F' N'; (try k_sweep); (try dsimp only))))
  trivial
section
theorem intVal {x y : Int} {t : Tok} (e : x = y) : Value.int x t = Value.int y t := by rw [e]
structure ShapeIs (es : List DictEntry) (cat us : Str) (size d : Nat) (sg sep : Bool) (sgn : Str) : Prop where
  cat : ∃ t, getL "category" es = some (some (.str cat t))
  size : ∃ t, getL "size" es = some (some (.int size t))
  usage : ∃ t, getL "usage" es = some (some (.str us t))
  sign : ∃ t, getL "sign" es = some (some (.str sgn t))
  sep : getL "is_separate" es = some (some (.bool sep))
  digits : ∃ t, getL "digits" es = some (some (.int d t))
  signed : getL "is_signed" es = some (some (.bool sg))
theorem kept_units_spec (w : World) (x dx : Addr) (es : List DictEntry) (n : Nat) {cat us sgn : Str} {size d : Nat} {sg sep : Bool} (hS : ShapeIs es cat us size d sg sep sgn) (h1 : d ≤ 18) (u : Int) (tu : Tok) :
    Spec w (hd.heap_1 w.params) 191 [.ref x, .int u tu] [(x, instObj 111 dx), (dx, dictOf es n)] 2 (fun v new => new = [] ∧ ∃ t, v = .int (kept d sg u) t) := by
  obtain ⟨_, _, _, _, _, ⟨td, hdig⟩, hsg⟩ := hS
  unfold Spec
  intro dp un gd cn cs a ccd cl outer A₀ base h₀ L m mg mb mean news s Q E B F X N T hk hs hroom hun ret
  refine enterC (binds := [(Str.ofString "shape", .ref x), (Str.ofString "units", .int u tu)]) B F X N T rfl rfl hk hs (by k_is) (by k_is) (show dp < recursionLimit from Nat.lt_of_le_of_lt (Nat.le_add_right _ _) hroom) (BindsTo.of_eq rfl) (locs rfl) ret ?_ rfl rfl rfl (by decide)
  clear B F X N T ret hs
  intro g L' h₁ gs5 dr5 tk os5 F' N' B' X' T' l1
  (try dsimp only)
  k_fold
  k_extra "my steps"
  all_goals (refine Ends.plain (by k_asm) (by k_asm) (by kcj_all) ⟨rfl, ?_⟩)
  · exact ⟨_, intVal (kept_neg (by assumption) (by assumption))⟩
  · exact ⟨_, intVal (kept_plain (by assumption))⟩
  · exact ⟨_, intVal (kept_pos (by assumption))⟩
end
section
def signAt (u : Int) : Int := if u < 0 then 45 else 43
def rowOf (u : Int) : Array UInt8 := if u < 0 then #[125, 74, 75, 76, 77, 78, 79, 80, 81, 82] else #[123, 65, 66, 67, 68, 69, 70, 71, 72, 73]
def codesOf (d n : Nat) : List Int := ((figs 10 d n).map Int.ofNat).map fun k => 48 + k
def dispOct (d : Nat) (sg sep lead : Bool) (u : Int) : List Int :=
  if sg = false then codesOf d u.natAbs else
  if sep = true then (if lead = true then [signAt u] ++ codesOf d u.natAbs else codesOf d u.natAbs ++ [signAt u])
  else (codesOf d u.natAbs).set (if lead = true then 0 else d - 1) ((((rowOf u).toList.getD ((codesOf d u.natAbs).getD (if lead = true then 0 else d - 1) 0 - 48).toNat 0).toNat : Nat) : Int)
theorem bytesVal {x y : List Int} {t : Tok} (e : x = y) : Value.bytes (byteArr x) t = Value.bytes (byteArr y) t := by rw [e]
theorem absNat (u : Int) : (if u < 0 then -u else u).toNat = u.natAbs := by split <;> (first | lia | omega)
theorem codesEq {fs : List Int} {d : Nat} {u : Int} (h : fs = List.map Int.ofNat (figs 10 (d : Int).toNat (if u < 0 then -u else u).toNat)) : fs.map (fun k => 48 + k) = codesOf d u.natAbs := by
  rw [h, absNat, Int.toNat_natCast]; rfl
theorem codesOf_length (d n : Nat) : (codesOf d n).length = d := by simp [codesOf, figs_length]
end
section
section
variable {prog : Program} {w : World} {A : Around} {E : Value → Shared → Prop} {s : Shared} {h₀ : Heap} {L : Addr} {m : Str → Option Value} {news : List (Addr × Obj)}
theorem bytesOf_K {l : Addr} {vs : List Value} {ns : List Int} {c : Nat} {Q : Value → Shared → Prop} (F : Fr h₀ L s.heap m) (N : News h₀ L s.heap news) (hm : (l, W.listOf vs.toArray c) ∈ news) (hi : IntsAre vs ns) (hr : ∀ n ∈ ns, 0 ≤ n ∧ n < 256) (hz : ns.length ≤ 100) (hh : A.handled = none)
    (h : ∀ h' t k, Fr h₀ L h' m → News h₀ L h' news → Q (.bytes (byteArr ns) t) { s with heap := h', toks := k }) : wpAny (model prog w) A (call (.type "bytes") [.ref l]) Q E s :=
  bytes_K F N ⟨_, (N _ hm).1, rfl, c, rfl⟩ hi hr (by rw [hi.length, sizeLine_eq]; (first | lia | omega)) hh fun h' t k F' N' _ => h h' t k F' N'
end
theorem all48 {fs : List Int} (hB : ∀ f ∈ fs, 0 ≤ f ∧ f ≤ 9) : ∀ n ∈ fs.map (fun k => 48 + k), 0 ≤ n ∧ n < 256 := by
  intro n hn
  obtain ⟨f, hf, rfl⟩ := List.mem_map.mp hn
  have := hB f hf
  (first | lia | omega)
theorem all_cons {a : Int} {ns : List Int} (h0 : 0 ≤ a ∧ a < 256) (h : ∀ n ∈ ns, 0 ≤ n ∧ n < 256) : ∀ n ∈ a :: ns, 0 ≤ n ∧ n < 256 := List.forall_mem_cons.mpr ⟨h0, h⟩
theorem all_snoc {a : Int} {ns : List Int} (h0 : 0 ≤ a ∧ a < 256) (h : ∀ n ∈ ns, 0 ≤ n ∧ n < 256) : ∀ n ∈ ns ++ [a], 0 ≤ n ∧ n < 256 := List.forall_mem_append.mpr ⟨h, List.forall_mem_cons.mpr ⟨h0, List.forall_mem_nil _⟩⟩
theorem all_set {i : Nat} {a : Int} {ns : List Int} (h0 : 0 ≤ a ∧ a < 256) (h : ∀ n ∈ ns, 0 ≤ n ∧ n < 256) : ∀ n ∈ ns.set i a, 0 ≤ n ∧ n < 256 := fun n hn => by
  rcases List.mem_or_eq_of_mem_set hn with hn | rfl
  · exact h n hn
  · exact h0
theorem u8_in (b : UInt8) : (0 : Int) ≤ ((b.toNat : Nat) : Int) ∧ ((b.toNat : Nat) : Int) < 256 := ⟨Int.natCast_nonneg _, by have := b.toNat_lt; (first | lia | omega)⟩
theorem fig_at {fs : List Int} {k : Nat} (hB : ∀ f ∈ fs, 0 ≤ f ∧ f ≤ 9) (hk : k < fs.length) : 0 ≤ (fs.map (fun k => 48 + k)).getD k 0 - 48 ∧ (fs.map (fun k => 48 + k)).getD k 0 - 48 < 10 := by
  rw [List.getD_eq_getElem?_getD, List.getElem?_map, List.getElem?_eq_getElem hk]
  have := hB _ (List.getElem_mem hk)
  simp only [Option.map_some, Option.getD_some]
  (first | lia | omega)
section
variable {prog : Program} {w : World} {A : Around} {E : Value → Shared → Prop} {s : Shared}
theorem bytesItem_K {b : Array UInt8} {i : Int} {t ui : Tok} {value slice : Expr} {Q : Value → Shared → Prop} (h : 0 ≤ i ∧ i < (b.size : Int)) (hfit : b.size ≤ 1000)
    (hQ : Q (.int (((b.toList.getD i.toNat 0).toNat : Nat) : Int) s.toks) { s with toks := s.toks + 1 })
    (hs : subscripted slice false (.bytes b t) (.int i ui) = operate [.bytes b t, .int i ui] (getItem (.bytes b t) (.int i ui)))
    (ht : ∀ r, letTemporaryGo value (.bytes b t) r = pure ()) : wpAny (model prog w) A (subscriptTail value slice (.bytes b t) (.int i ui)) Q E s := by
  obtain ⟨x⟩ := b
  exact bytes_item_K (x := x) (by simp at hfit; (first | lia | omega)) h.1 (by simpa using h.2) rfl hQ hs ht
end
end
section
def stepKs (a c : Int) (n : Nat) : List Int := (List.range n).map fun (i : Nat) => a + (i : Int) * c
theorem stepKs_length (a c : Int) (n : Nat) : (stepKs a c n).length = n := by simp [stepKs]
/-- a comprehension over a range of any step -/
def StepSrc (prog : Program) (w : World) (A : Around) (h₀ : Heap) (L : Addr) (m : Str → Option Value) (env : Env) (elt : PySem.Expr) (x : Str) (scope : Scope) (cl : List (Str × Addr)) (Fin : Shared → List Value → List (Addr × Obj) → Prop) (xv : Value) (s₁ : Shared) : Prop :=
  ∃ r a b c t u v n news, xv = .ref r ∧ A.handled = none ∧ Fr h₀ L s₁.heap m ∧ News h₀ L s₁.heap news ∧ IsRange s₁.heap r a b c t u v ∧ Builtin.Range.small a b c = true ∧ Builtin.Range.rangeSize a b c = ((n : Nat) : Int) ∧ n ≤ sizeLine ∧
    ∀ s₂ : Shared, (∃ h, s₂ = { s₁ with heap := h }) → LCg.CompRest prog w A h₀ L m env elt x scope cl s₂ (fun _ => True) (fun i v => ∃ t, v = .int (a + (i : Int) * c) t) (Fin s₂) n 0 [] news
section
variable {prog : Program} {w : World} {A : Around} {E : Value → Shared → Prop} {s : Shared} {h₀ : Heap} {L : Addr} {m : Str → Option Value} {env : Env}
theorem StepSrc.intro {elt : PySem.Expr} {x : Str} {scope : Scope} {cl : List (Str × Addr)} {Fin : Shared → List Value → List (Addr × Obj) → Prop} {r : Addr} {a b c : Int} {t u v : Tok} {news : List (Addr × Obj)} {s₁ : Shared} (n : Nat)
    (hh : A.handled = none) (F : Fr h₀ L s₁.heap m) (N : News h₀ L s₁.heap news) (hr : IsRange s₁.heap r a b c t u v) (hsm : Builtin.Range.small a b c = true) (hn : Builtin.Range.rangeSize a b c = ((n : Nat) : Int)) (hsz : n ≤ sizeLine)
    (g : Int → Int) (turn : ∀ s₂ : Shared, (∃ h, s₂ = { s₁ with heap := h }) → ∀ (i : Nat) k t I oI C oC D m₂ ys h tk (E' : Value → Shared → Prop), i < n → k = a + (i : Int) * c → LCg.NsObj oC m₂ → m₂ x = some (.int k t) → Fr h₀ L h m → News h₀ L h ((I, oI) :: (C, oC) :: (D, LCg.lst ys) :: news) → LCg.Off3 I C D news → ((@Ne Nat I C) ∧ (@Ne Nat I D) ∧ (@Ne Nat C D)) → KPfMark →
      wpAny (model prog w) A (eval elt (compEnvC scope cl C env)) (LCg.CompEnd h₀ L m { s₂ with heap := h, toks := tk } I oI C oC D (LCg.lst ys) (fun _ => True) (fun y news' => KCfEl news (g k) y news')) E' { s₂ with heap := h, toks := tk })
    (fin : ∀ s₂ : Shared, (∃ h, s₂ = { s₁ with heap := h }) → ∀ ys, IntsAre ys ((stepKs a c n).map g) → Fin s₂ ys news) : StepSrc prog w A h₀ L m env elt x scope cl Fin (.ref r) s₁ := by
  refine ⟨r, a, b, c, t, u, v, n, news, rfl, hh, F, N, hr, hsm, hn, hsz, fun s₂ e => ?_⟩
  refine kcf_rest (ks := stepKs a c n) g (stepKs_length a c n) (fun i v hi hv => ?_) (fun k t I oI C oC D m₂ ys h tk E' hk => ?_) (fun ys hy => fin s₂ e ys hy)
  · obtain ⟨t, e⟩ := hv
    exact ⟨a + (i : Int) * c, t, by simp [stepKs, hi], e⟩
  · obtain ⟨i, hi, hk'⟩ := List.mem_map.mp hk
    exact turn s₂ e i k t I oI C oC D m₂ ys h tk E' (List.mem_range.mp hi) hk'.symm

theorem ListComp_step {elt iter : PySem.Expr} {x : Str} {px : Pos} {scope : Scope} {cl : List (Str × Addr)} {pos : Pos} {Q : Value → Shared → Prop} (F₀ : Fr h₀ L s.heap m)
    (hclos : closureFor scope env = pure cl) (hcell : ∀ y ∈ scope.names, y.2 ≠ .cell) (hkind : scope.kind = .function)
    (hnames : ∀ y ∈ scope.names, y.2 = .local → scope.names.lookup y.1 = some .local) (hx : scope.names.lookup x = some .local)
    (h : wpAny (model prog w) A (eval iter env) (StepSrc prog w A h₀ L m env elt x scope cl (fun s₂ => LCg.FinE h₀ L m s₂ Q)) E s)
    (hs : ∀ x, foldedSetIterable iter env x = pure x) :
    wpAny (model prog w) A (eval (.ListComp elt [⟨.Name x px, iter, [], 0⟩] scope pos) env) Q E s := by
  rw [eval_ListComp]
  refine wpAny_comprehension_free (use := none) rfl hs hclos hkind hnames (wpAny_mono h (fun xv s₁ h₁ => ?_) fun _ _ e => e)
  obtain ⟨r, a, b, c, t, u, v, n, news, rfl, hh, F, N, hr, hsm, hn, hsz, R⟩ := h₁
  refine wpAny_pyIter_range hr hsm ?_
  refine LCg.block_U (Walks.range hh s₁.heap.objs.size a c n) hsz (fun i h st => ⟨_, st⟩) (fun i h h' o nw st e e' _ _ _ => ?_) hcell hkind hx (by show IsRangeIter _ _ _ _ _; rw [hn]; simpa using Heap.get?_push_size _ rfl) (fun b hb => ?_)
    (F.keeps fun _ _ e => Heap.get?_push_of_some _ e) (N.grown fun _ _ e => Heap.get?_push_of_some _ e) (Nat.ne_of_lt F.ns.lt) (next_is_new F) (fun p hp => Nat.ne_of_lt (Heap.lt_size (N p hp).1)) trivial (R _ ⟨_, rfl⟩) ?_
  · have st' : h.get? s₁.heap.objs.size = some _ := st
    show h'.get? s₁.heap.objs.size = some _
    rw [e', ← e]; exact st'
  · rw [List.mem_singleton.mp hb]
    show s₁.heap.objs.size < (s₁.heap.push _).objs.size
    rw [Heap.size_push]; exact Nat.lt_succ_self _
  · intro D C h tk m' ys news' F' N' o1 hn hC₀ hD₀ hCL hDL hCD offC fin
    refine ⟨m', hn, fun h'' hs'' => fin D h'' tk (F'.change hs'' hCL hC₀) (fun p hp => ?_) o1⟩
    refine ⟨hs''.extBut _ _ ?_ (N' p hp).1, (N' p hp).2⟩
    rcases List.mem_cons.mp hp with rfl | hp
    · exact Ne.symm hCD
    · exact offC p hp
end
/-- a comprehension over bytes -/
def ByteSrc (prog : Program) (w : World) (A : Around) (h₀ : Heap) (L : Addr) (m : Str → Option Value) (env : Env) (elt : PySem.Expr) (x : Str) (scope : Scope) (cl : List (Str × Addr)) (Fin : Shared → List Value → List (Addr × Obj) → Prop) (xv : Value) (s₁ : Shared) : Prop :=
  ∃ b tb news, xv = .bytes b tb ∧ A.handled = none ∧ Fr h₀ L s₁.heap m ∧ News h₀ L s₁.heap news ∧ b.size ≤ sizeLine ∧
    ∀ s₂ : Shared, (∃ h, s₂ = { s₁ with heap := h }) → LCg.CompRest prog w A h₀ L m env elt x scope cl s₂ (fun _ => True) (fun i v => ∃ c u, b[i]? = some c ∧ v = .int (c.toNat : Int) u) (Fin s₂) b.size 0 [] news
section
variable {prog : Program} {w : World} {A : Around} {E : Value → Shared → Prop} {s : Shared} {h₀ : Heap} {L : Addr} {m : Str → Option Value} {env : Env}
theorem ByteSrc.intro {elt : PySem.Expr} {x : Str} {scope : Scope} {cl : List (Str × Addr)} {Fin : Shared → List Value → List (Addr × Obj) → Prop} {b : Array UInt8} {tb : Tok} {news : List (Addr × Obj)} {s₁ : Shared} {ks : List Int}
    (hh : A.handled = none) (F : Fr h₀ L s₁.heap m) (N : News h₀ L s₁.heap news) (hb : KBw.bInts b = ks) (hsz : ks.length ≤ 1000)
    (g : Int → Int) (turn : ∀ s₂ : Shared, (∃ h, s₂ = { s₁ with heap := h }) → ∀ k t I oI C oC D m₂ ys h tk (E' : Value → Shared → Prop), k ∈ ks → 0 ≤ k ∧ k < 256 → LCg.NsObj oC m₂ → m₂ x = some (.int k t) → Fr h₀ L h m → News h₀ L h ((I, oI) :: (C, oC) :: (D, LCg.lst ys) :: news) → LCg.Off3 I C D news → ((@Ne Nat I C) ∧ (@Ne Nat I D) ∧ (@Ne Nat C D)) → KPfMark →
      wpAny (model prog w) A (eval elt (compEnvC scope cl C env)) (LCg.CompEnd h₀ L m { s₂ with heap := h, toks := tk } I oI C oC D (LCg.lst ys) (fun _ => True) (fun y news' => KCfEl news (g k) y news')) E' { s₂ with heap := h, toks := tk })
    (fin : ∀ s₂ : Shared, (∃ h, s₂ = { s₁ with heap := h }) → ∀ ys, IntsAre ys (ks.map g) → Fin s₂ ys news) : ByteSrc prog w A h₀ L m env elt x scope cl Fin (.bytes b tb) s₁ := by
  subst hb
  refine ⟨b, tb, news, rfl, hh, F, N, (by rw [sizeLine_eq, ← KBw.ints_length]; (first | lia | omega)), fun s₂ e => ?_⟩
  refine kcf_rest (ks := KBw.bInts b) g (KBw.ints_length b) (fun i v hi hv => ?_) (fun k t I oI C oC D m₂ ys h tk E' hk => turn s₂ e k t I oI C oC D m₂ ys h tk E' hk (KBw.ints_in hk)) (fun ys hy => fin s₂ e ys hy)
  obtain ⟨c, t, hc, e⟩ := hv
  exact ⟨_, t, KBw.ints_get hc, e⟩

theorem ListComp_bytes {elt iter : PySem.Expr} {x : Str} {px : Pos} {scope : Scope} {cl : List (Str × Addr)} {pos : Pos} {Q : Value → Shared → Prop} (F₀ : Fr h₀ L s.heap m)
    (hclos : closureFor scope env = pure cl) (hcell : ∀ y ∈ scope.names, y.2 ≠ .cell) (hkind : scope.kind = .function)
    (hnames : ∀ y ∈ scope.names, y.2 = .local → scope.names.lookup y.1 = some .local) (hx : scope.names.lookup x = some .local)
    (h : wpAny (model prog w) A (eval iter env) (ByteSrc prog w A h₀ L m env elt x scope cl (fun s₂ => LCg.FinE h₀ L m s₂ Q)) E s)
    (hs : ∀ x, foldedSetIterable iter env x = pure x) :
    wpAny (model prog w) A (eval (.ListComp elt [⟨.Name x px, iter, [], 0⟩] scope pos) env) Q E s := by
  rw [eval_ListComp]
  refine wpAny_comprehension_free (use := none) rfl hs hclos hkind hnames (wpAny_mono h (fun xv s₁ h₁ => ?_) fun _ _ e => e)
  obtain ⟨b, tb, news, rfl, hh, F, N, hsz, R⟩ := h₁
  refine KBw.pyIter_bytes ?_
  refine LCg.block_U (KBw.walks hh s₁.heap.objs.size b tb) hsz (fun i h st => by obtain ⟨o, e, _⟩ := st; exact ⟨o, e⟩) (fun i h h' o nw st e e' _ _ _ => ?_) hcell hkind hx ⟨_, Heap.get?_push_size _ rfl, rfl, rfl⟩ (fun b hb => ?_)
    (F.keeps fun _ _ e => Heap.get?_push_of_some _ e) (N.grown fun _ _ e => Heap.get?_push_of_some _ e) (Nat.ne_of_lt F.ns.lt) (next_is_new F) (fun p hp => Nat.ne_of_lt (Heap.lt_size (N p hp).1)) trivial (R _ ⟨_, rfl⟩) ?_
  · obtain ⟨o', q, r⟩ := st
    rw [e] at q; cases q
    exact ⟨o, e', r⟩
  · rw [List.mem_singleton.mp hb]
    show s₁.heap.objs.size < (s₁.heap.push _).objs.size
    rw [Heap.size_push]; exact Nat.lt_succ_self _
  · intro D C h tk m' ys news' F' N' o1 hn hC₀ hD₀ hCL hDL hCD offC fin
    refine ⟨m', hn, fun h'' hs'' => fin D h'' tk (F'.change hs'' hCL hC₀) (fun p hp => ?_) o1⟩
    refine ⟨hs''.extBut _ _ ?_ (N' p hp).1, (N' p hp).2⟩
    rcases List.mem_cons.mp hp with rfl | hp
    · exact Ne.symm hCD
    · exact offC p hp
end
theorem bInts_byteArr {ns : List Int} (h : ∀ n ∈ ns, 0 ≤ n ∧ n < 256) : KBw.bInts (byteArr ns) = ns := by
  unfold KBw.bInts byteArr
  simp only [List.map_map]
  refine (List.map_congr_left (g := id) fun n hn => ?_).trans (List.map_id ns)
  have := h n hn
  show ((n.toNat.toUInt8.toNat : Nat) : Int) = n
  rw [show n.toNat.toUInt8.toNat = n.toNat % 256 from by simp]
  (first | lia | omega)
end
section
theorem look_int_buffer : typeLookup (.type "int") "__buffer__" = pure none := by rw [typeLookup_type, builtinLookup_eq_fast]; kernel_rfl
theorem buffer_int {id : String} {i : Int} {t : Tok} : Builtin.Bytes.buffer? id (.int i t) = pure none := by
  have e : specialOf (.int i t) "__buffer__" = pure none := by
    have e' : specialOf (.int i t) "__buffer__" = typeLookup (.type "int") "__buffer__" := rfl
    rw [e', look_int_buffer]
  unfold Builtin.Bytes.buffer?
  rw [e]
  rfl
theorem not_byte {i : Int} (h0 : 0 ≤ i) (h1 : i < 256) : (i < 0 || i ≥ 256 : Bool) = false := by simp; (first | lia | omega)
theorem gives_bytes_contains (b : Array UInt8) (i : Int) (t u : Tok) (h0 : 0 ≤ i) (h1 : i < 256) :
    Gives (Builtin.«bytes.__contains__» ⟨[.bytes b t, .int i u], []⟩) (.val (.bool (b.contains i.toNat.toUInt8))) := by
  refine .of_wp fun M A E s Q hq => ?_
  show wpAny M A (Builtin.Bytes.containsIn "bytes.__contains__" (.bytes b t) (.int i u) >>= fun r => _) _ E s
  refine wpAny_bind ?_
  unfold Builtin.Bytes.containsIn
  refine wpAny_bind (wpAny_of_eq (a := .ok i) rfl ?_)
  refine wpAny_bind (wpAny_of_eq KBy.buffer_eq ?_)
  show wpAny M A (if (decide (i < 0) || decide (i ≥ 256)) = true then _ else _) _ E s
  refine wpAny_ite ?_
  rw [if_neg (by rw [not_byte h0 h1]; exact Bool.false_ne_true)]
  exact wpAny_pure (wpAny_pure ⟨_, rfl, hq⟩)
theorem slot_bytes_index : Slot "bytes" "index" "bytes.index" :=
  .of (owner := "bytes") (n := "index") (by rw [typeLookup_type, builtinLookup_eq_fast]; kernel_rfl) (by decide +kernel) (by decide +kernel) (by decide +kernel)
    (by first | exact .inl (by decide +kernel) | exact .inr (by decide +kernel)) (by rw [isSubtype_type]; kernel_rfl)
theorem type_bytes_index : typeOf (.builtin "bytes.index") = pure (.type "method_descriptor") := by show builtinType _ = _; rw [builtinType_eq_fast]; kernel_rfl
theorem entry_bytes_index : entryFor table "bytes.index" = some Builtin.«bytes.index» := entryFor_of_tree (by kernel_rfl)
theorem args_bytes_index_2 (a b : Value) : argsOk "bytes.index" ⟨[a, b], []⟩ := by
  unfold argsOk; rw [signature?_of (id := "bytes.index") (n := ['x', 'e', 'd', 'n', 'i']) (o := ['s', 'e', 't', 'y', 'b']) (by kernel_rfl) FB.owner_bytes]; kernel_rfl
theorem window_all (n : Nat) : Builtin.Bytes.window n none none = (0, (n : Int)) := by
  have : ¬ ((n : Int) < 0) := by (first | lia | omega)
  simp [Builtin.Bytes.window, this]
theorem search_args {M : Model} {A : Around} {E : Value → Shared → Prop} {s : Shared} {b : Array UInt8} {i : Int} {t u : Tok} {Q : Array UInt8 × Array UInt8 × Option (Nat × Nat) → Shared → Prop} (h0 : 0 ≤ i) (h1 : i < 256) (hb : 1 ≤ b.size)
    (h : Q (b, #[i.toNat.toUInt8], some (0, b.size)) s) : wpAny M A (Builtin.Bytes.searchArgs .bytes "index" ⟨[.bytes b t, .int i u], []⟩) Q E s := by
  unfold Builtin.Bytes.searchArgs
  refine wpAny_bind (wpAny_of_eq (a := (.bytes b t, [.int i u])) rfl ?_)
  refine wpAny_bind (wpAny_of_eq (a := none) rfl ?_)
  refine wpAny_bind (wpAny_of_eq (a := none) rfl ?_)
  refine wpAny_bind (wpAny_of_eq buffer_int ?_)
  show wpAny M A (specialOf (.int i u) "__index__" >>= fun r => _) _ E s
  refine wpAny_bind (wpAny_specialOf (typeIs_int s i u) F.slot_int_index.lookup ?_)
  show wpAny M A (Builtin.Bytes.indexHeld [.bytes b t] (.int i u) >>= fun r => _) _ E s
  refine wpAny_bind (wpAny_of_eq (a := i) rfl ?_)
  show wpAny M A (if (decide (i < 0) || decide (i ≥ 256)) = true then _ else _) _ E s
  refine wpAny_ite ?_
  rw [if_neg (by rw [not_byte h0 h1]; exact Bool.false_ne_true)]
  refine wpAny_pure ?_
  have key : ((b, #[i.toNat.toUInt8], if (Builtin.Bytes.window b.size none none).2 - (Builtin.Bytes.window b.size none none).1 < ((1 : Nat) : Int) then none else some ((Builtin.Bytes.window b.size none none).1.toNat, (Builtin.Bytes.window b.size none none).2.toNat)) : Array UInt8 × Array UInt8 × Option (Nat × Nat)) = (b, #[i.toNat.toUInt8], some (0, b.size)) := by
    rw [window_all]
    show (b, #[i.toNat.toUInt8], if (b.size : Int) - 0 < ((1 : Nat) : Int) then none else some (0, b.size)) = _
    rw [if_neg (by (first | lia | omega))]
  rw [← key] at h
  exact h
theorem gives_bytes_index (b : Array UInt8) (i : Int) (t u : Tok) (k : Nat) (h0 : 0 ≤ i) (h1 : i < 256) (hb : 1 ≤ b.size) (hk : Builtin.Bytes.find? b #[i.toNat.toUInt8] 0 b.size = some k) :
    Gives (Builtin.«bytes.index» ⟨[.bytes b t, .int i u], []⟩) (.int k) := by
  refine .of_wp fun M A E s Q hq => ?_
  show wpAny M A (Builtin.Bytes.searchArgs .bytes "index" ⟨[.bytes b t, .int i u], []⟩ >>= fun r => _) _ E s
  refine wpAny_bind (search_args h0 h1 hb ?_)
  show wpAny M A (match Builtin.Bytes.find? b #[i.toNat.toUInt8] 0 b.size with | some i => retInt i | none => _) _ E s
  rw [hk]
  exact wpAny_bind (wpAny_mkInt (wpAny_pure ⟨_, rfl, hq⟩))
section
variable {prog : Program} {w : World} {A : Around} {E : Value → Shared → Prop} {s : Shared} {b : Array UInt8} {t u : Tok} {i : Int}
theorem in_bytes {Q : Value → Shared → Prop} (h0 : 0 ≤ i) (h1 : i < 256) (h : Q (.bool (b.contains i.toNat.toUInt8)) s) : wpAny (model prog w) A (compareOp .In (.int i u) (.bytes b t)) Q E s :=
  In_slot (typeIs_bytes s b t) FB.slot_bytes_contains (call_meets FB.slot_bytes_contains (typeIs_bytes s b t) FB.entry_bytes_contains (FB.args_bytes_contains_2 _ _) (gives_bytes_contains b i t u h0 h1).meets (wpAny_truthy_bool h))
theorem index_method {M : Model} {pl : Sem Bool} {Q : Value × List Value → Shared → Prop} (h : Q (.builtin "bytes.index", [.bytes b t]) s) : wpAny M A (getMethod (.bytes b t) "index" pl) Q E s := by
  with_reducible exact KBd.method_of (.bytes b t) (typeIs_bytes _ _ _) slot_bytes_index type_bytes_index KBd.noRef h
theorem bytes_index {Q : Value → Shared → Prop} (k : Nat) (h0 : 0 ≤ i) (h1 : i < 256) (hb : 1 ≤ b.size) (hk : Builtin.Bytes.find? b #[i.toNat.toUInt8] 0 b.size = some k) (h : ∀ t n, Q (.int k t) { s with toks := n }) :
    wpAny (model prog w) A (call (.builtin "bytes.index") [.bytes b t, .int i u]) Q E s :=
  call_meets slot_bytes_index (typeIs_bytes s b t) entry_bytes_index (args_bytes_index_2 _ _) (gives_bytes_index b i t u k h0 h1 hb hk).meets (h _ _)
end
section
variable {prog : Program} {w : World} {A : Around} {E : Value → Shared → Prop} {s : Shared}
theorem byteArr_getD {ns : List Int} (h : ∀ n ∈ ns, 0 ≤ n ∧ n < 256) {k : Nat} {c : Int} (hc : ns[k]? = some c) : ((((byteArr ns).toList.getD k 0).toNat : Nat) : Int) = c := by
  have := h c (List.mem_of_getElem? hc)
  unfold byteArr
  rw [List.getD_eq_getElem?_getD]
  simp only [List.getElem?_map, hc, Option.map_some, Option.getD_some]
  rw [show c.toNat.toUInt8.toNat = c.toNat % 256 from by simp]
  (first | lia | omega)
theorem byteArr_size (ns : List Int) : (byteArr ns).size = ns.length := by simp [byteArr]
theorem bytesInt_K {ns : List Int} {i c : Int} {t ui : Tok} {value slice : Expr} {Q : Value → Shared → Prop} (h : 0 ≤ i) (hc : ns[i.toNat]? = some c) (hr : ∀ n ∈ ns, 0 ≤ n ∧ n < 256) (hz : ns.length ≤ 100)
    (hQ : ∀ t k, Q (.int c t) { s with toks := k })
    (hs : subscripted slice false (.bytes (byteArr ns) t) (.int i ui) = operate [.bytes (byteArr ns) t, .int i ui] (getItem (.bytes (byteArr ns) t) (.int i ui)))
    (ht : ∀ r, letTemporaryGo value (.bytes (byteArr ns) t) r = pure ()) : wpAny (model prog w) A (subscriptTail value slice (.bytes (byteArr ns) t) (.int i ui)) Q E s := by
  refine bytesItem_K ⟨h, ?_⟩ (by rw [byteArr_size]; (first | lia | omega)) ?_ hs ht
  · rw [byteArr_size]
    have := (List.getElem?_eq_some_iff.mp hc).1
    (first | lia | omega)
  · rw [byteArr_getD hr hc]; exact hQ _ _
end
section
variable {prog : Program} {w : World} {A : Around} {E : Value → Shared → Prop} {s : Shared}
theorem len_byteArr {ns : List Int} {t : Tok} {Q : Value → Shared → Prop} (hz : ns.length ≤ 100) (h : ∀ t' k, Q (.int (ns.length : Nat) t') { s with toks := k }) : wpAny (model prog w) A (call (.builtin "len") [.bytes (byteArr ns) t]) Q E s := by
  refine len_bytes (by rw [byteArr_size]; (first | lia | omega)) ?_
  rw [byteArr_size]
  exact h _ _
end
end
section
/-- the end of a turn of a loop that may leave other objects than it found -/
def FrEnd (h₀ : Heap) (L : Addr) (J : (Str → Option Value) → List (Addr × Obj) → Prop) (own : List (Addr × Obj)) (s₁ s₂ : Shared) : Prop :=
  ∃ h' tk m' news' nx, s₂ = { s₁ with heap := h', toks := tk } ∧ Fr h₀ L h' m' ∧ News h₀ L h' news' ∧ (∀ p ∈ nx, p ∈ news') ∧ (∀ p ∈ own, p ∈ news') ∧ (∀ p ∈ nx, ∀ q ∈ own, p.1 ≠ q.1) ∧ J m' nx
def FrPost (h₀ : Heap) (L : Addr) (J : (Str → Option Value) → List (Addr × Obj) → Prop) (own : List (Addr × Obj)) (s₁ : Shared) (Q : Flow → Shared → Prop) (f : Flow) (s₂ : Shared) : Prop :=
  match f with
  | .ret v => Q (.ret v) s₂
  | .brk => Q .next s₂
  | _ => FrEnd h₀ L J own s₁ s₂
theorem FrEnd.intro {h₀ h' : Heap} {L : Addr} {J : (Str → Option Value) → List (Addr × Obj) → Prop} {own news' : List (Addr × Obj)} {h5 : Heap} {g5 : Array GenState} {d5 : Drawn} {t5 : Nat} {o5 : OsState} {tk : Nat} {m' : Str → Option Value} (nx : List (Addr × Obj))
    (F : Fr h₀ L h' m') (N : News h₀ L h' news') (hn : ∀ p ∈ nx, p ∈ news') (ho : ∀ p ∈ own, p ∈ news') (hd : ∀ p ∈ nx, ∀ q ∈ own, p.1 ≠ q.1) (hj : J m' nx) : FrEnd h₀ L J own ⟨h5, g5, d5, t5, o5⟩ ⟨h', g5, d5, tk, o5⟩ :=
  ⟨h', tk, m', news', nx, rfl, F, N, hn, ho, hd, hj⟩
section
variable {prog : Program} {w : World} {A : Around} {E : Value → Shared → Prop} {s : Shared} {env : Env} {h₀ : Heap} {x : Str} {body : List Stmt} {Q : Flow → Shared → Prop}
theorem loop_fresh {I : Addr} {fp wr : List Addr} {n : Nat} {P : Nat → Value → Prop} {St : Nat → Heap → Prop} {m₀ : Str → Option Value} {news : List (Addr × Obj)} (J : Nat → (Str → Option Value) → List (Addr × Obj) → Prop)
    (W : Walks prog w A I fp wr n P St) (hLf : env.locals ∉ fp) (hwr : ∀ b ∈ wr, h₀.get? b = none) (hnw : ∀ p ∈ news, p.1 ∉ wr) (hlv : ∀ i h, St i h → ∀ b ∈ wr, ∃ o, h.get? b = some o) (hst : St 0 s.heap) (F : Fr h₀ env.locals s.heap m₀) (N : News h₀ env.locals s.heap news) (hj : J 0 m₀ news)
    (turn : ∀ i v m₁ news₁ h tk own, i < n → P i v → J i m₁ news₁ → (∀ p ∈ news₁, p.1 ∉ wr) → (∀ p ∈ own, p.1 ∈ fp) → Fr h₀ env.locals h (fun y => if y = x then some v else m₁ y) → News h₀ env.locals h (news₁ ++ own) →
      wpAny (model prog w) A (execs body env) (FrPost h₀ env.locals (J (i + 1)) own { s with heap := h, toks := tk } Q) E { s with heap := h, toks := tk })
    (done : ∀ m₁ news₁ h tk, J n m₁ news₁ → Fr h₀ env.locals h m₁ → News h₀ env.locals h news₁ → Q .next { s with heap := h, toks := tk }) :
    LoopAtV prog w A h₀ env x body Q E (.ref I) s := by
  refine ⟨I, fp, wr, n, P, St, m₀, news, J, rfl, W, hLf, hwr, hnw, hst, F, N, hj, ?_, fun h' tk m' news' F' N' _ hJ => done m' news' h' tk hJ F' N'⟩
  rintro i v m₁ news₁ s₁ own ⟨hh', tk', rfl⟩ hin hP hJ hoff hown hlive hall hst' F₁ N₁
  have N₂ : News h₀ env.locals hh' (news₁ ++ own) := fun p hp => N₁ p ((List.mem_append.mp hp).elim (fun h => List.mem_append.mpr (.inr h)) fun h => List.mem_append.mpr (.inl h))
  refine wpAny_mono (turn i v m₁ news₁ hh' tk' own hin hP hJ hoff hown F₁ N₂) (fun f s₂ p => ?_) fun _ _ e => e
  have fin : FrEnd h₀ env.locals (J (i + 1)) own { s with heap := hh', toks := tk' } s₂ → LoopStepU h₀ env.locals wr own (J (i + 1)) { s with heap := hh', toks := tk' } .next s₂ := by
    rintro ⟨h', tk, m', news', nx, e, F', N', hn, ho, hd, hm⟩
    refine ⟨rfl, h', tk, m', nx, e, F', fun p hp => N' p ((List.mem_append.mp hp).elim (ho p) (hn p)), fun p hp hq => ?_, hm⟩
    obtain ⟨o, ho'⟩ := hlv _ _ hst' _ hq
    exact hd p hp _ (hall _ (W.sub _ hq) (hwr _ hq) o ho') rfl
  cases f with
  | ret v => exact .ret p
  | brk => exact .brk p
  | next => exact .next (fin p)
  | cont => exact .cont (fin p)
theorem bytes_fresh {b : Array UInt8} {ks : List Int} {tb : Tok} {m₀ : Str → Option Value} {news : List (Addr × Obj)} (J : List Int → (Str → Option Value) → List (Addr × Obj) → Prop)
    (hb : KBw.bInts b = ks) (hh : A.handled = none) (F : Fr h₀ env.locals s.heap m₀) (N : News h₀ env.locals s.heap news) (hj : J [] m₀ news)
    (turn : ∀ pre post n t m₁ news₁ h tk own, ks = pre ++ n :: post → 0 ≤ n → n < 256 → J pre m₁ news₁ → (∀ p ∈ news₁, ∀ q ∈ own, @Ne Nat p.1 q.1) → Fr h₀ env.locals h (fun y => if y = x then some (.int n t) else m₁ y) → News h₀ env.locals h (news₁ ++ own) →
      wpAny (model prog w) A (execs body env) (FrPost h₀ env.locals (J (pre ++ [n])) own { s with heap := h, toks := tk } Q) E { s with heap := h, toks := tk })
    (done : ∀ m₁ news₁ h tk, J ks m₁ news₁ → Fr h₀ env.locals h m₁ → News h₀ env.locals h news₁ → Q .next { s with heap := h, toks := tk }) :
    wpAny (model prog w) A (pyIter (.bytes b tb)) (fun it s₂ => LoopAtV prog w A h₀ env x body Q E it s₂) E s := by
  subst hb
  refine KBw.pyIter_bytes ?_
  have W := KBw.walks (prog := prog) (w := w) hh s.heap.objs.size b tb
  refine loop_fresh (fun i m nx => J ((KBw.bInts b).take i) m nx) W ?_ ?_ ?_ (fun i h st b' hb' => ?_) ⟨_, Heap.get?_push_size _ rfl, rfl, rfl⟩ (F.push _) (fun p hp => ⟨Heap.get?_push_of_some _ (N p hp).1, (N p hp).2⟩) (by simpa using hj) ?_ ?_
  · intro hm
    exact absurd F.ns.lt ((List.mem_singleton.mp hm) ▸ Nat.lt_irrefl _)
  · intro b' hb
    rw [List.mem_singleton.mp hb]
    exact next_is_new F
  · intro p hp hI
    exact absurd (Heap.lt_size (N p hp).1) ((List.mem_singleton.mp hI) ▸ Nat.lt_irrefl _)
  · obtain ⟨o, e, _⟩ := st
    rw [List.mem_singleton.mp hb']; exact ⟨o, e⟩
  · rintro i v m₁ nx h tk own hi ⟨n, u, hn, rfl⟩ hp' hoff hown F₁ N₁
    have hn' := KBw.ints_get hn
    have hs : (KBw.bInts b).take (i + 1) = (KBw.bInts b).take i ++ [(n.toNat : Int)] := by simp [List.take_add_one, hn']
    have e : KBw.bInts b = (KBw.bInts b).take i ++ (n.toNat : Int) :: (KBw.bInts b).drop (i + 1) := by
      have ht := List.take_append_drop (i + 1) (KBw.bInts b)
      rw [hs, List.append_assoc] at ht
      exact ht.symm
    have hb := KBw.ints_in (List.mem_of_getElem? hn')
    rw [hs]
    exact turn _ _ (n.toNat : Int) u m₁ nx h tk own e hb.1 hb.2 hp' (fun p hp q hq e => hoff p hp (e ▸ hown q hq)) F₁ N₁
  · rintro m₁ nx h tk hp' F₁ N₁
    have h8 : b.size = (KBw.bInts b).length := (KBw.ints_length b).symm
    rw [h8, List.take_length] at hp'
    exact done m₁ nx h tk hp' F₁ N₁
end
theorem allLt_mem {d : Nat} : ∀ {l : List (Addr × Obj)}, AllLt d l → ∀ p ∈ l, @LT.lt Nat _ p.1 d
  | [], _, _, h => nomatch h
  | _ :: _, a, _, h => by
    rcases List.mem_cons.mp h with rfl | h
    · exact a.1
    · exact allLt_mem a.2 _ h
theorem putAside {a b : Str} {v : Option Value} {f : Str → Option Value} (h : a ≠ b) : (fun y => if y = b then v else f y) = fun z => if z = a then f a else if z = b then v else f z := by
  funext z
  by_cases h1 : z = a
  · subst h1; rw [if_neg h, if_pos rfl]
  · rw [if_neg h1]
theorem putAgain {a b : Str} {u v v' x : Option Value} {f : Str → Option Value} (h : a ≠ b) :
    (fun y => if y = b then v' else if y = a then x else (fun z => if z = a then u else if z = b then v else f z) y) = fun z => if z = a then x else if z = b then v' else f z := by
  funext z
  by_cases h1 : z = a
  · subst h1; rw [if_neg h, if_pos rfl, if_pos rfl]
  · by_cases h2 : z = b
    · subst h2; rw [if_pos rfl, if_neg h1, if_pos rfl]
    · rw [if_neg h2, if_neg h1, if_neg h1, if_neg h2]
      show (if z = a then u else if z = b then v else f z) = f z
      rw [if_neg h1, if_neg h2]
end
section
def strInts (x : Str) : List Int := x.cps.toList.map Int.ofNat
theorem strInts_length (x : Str) : (strInts x).length = x.length := by rw [strInts, List.length_map]; exact Array.length_toList
section
variable {prog : Program} {w : World} {A : Around} {h₀ : Heap} {L : Addr} {m : Str → Option Value} {env : Env} {elt : Expr} {x : Str} {scope : Scope} {cl : List (Str × Addr)} {s : Shared} {S : List (Addr × Obj) → Prop} {P : Nat → Value → Prop} {Fin : List Value → List (Addr × Obj) → Prop} {news : List (Addr × Obj)}
theorem text_rest {n : Nat} {ks : List Int} (It : Int → Value → Prop) (g : Int → Int) (hks : ks.length = n) (hP : ∀ i v, i < n → P i v → ∃ k, ks[i]? = some k ∧ It k v)
    (turn : ∀ k v I oI C oC D m₂ ys h tk (E' : Value → Shared → Prop), k ∈ ks → It k v → LCg.NsObj oC m₂ → m₂ x = some v → Fr h₀ L h m → News h₀ L h ((I, oI) :: (C, oC) :: (D, LCg.lst ys) :: news) → LCg.Off3 I C D news → ((@Ne Nat I C) ∧ (@Ne Nat I D) ∧ (@Ne Nat C D)) → KPfMark →
      wpAny (model prog w) A (eval elt (compEnvC scope cl C env)) (LCg.CompEnd h₀ L m { s with heap := h, toks := tk } I oI C oC D (LCg.lst ys) S (fun y news' => KCfEl news (g k) y news')) E' { s with heap := h, toks := tk })
    (fin : ∀ ys, IntsAre ys (ks.map g) → Fin ys news) : LCg.CompRest prog w A h₀ L m env elt x scope cl s S P Fin n 0 [] news := by
  have key : ∀ (j i : Nat) (ys : List Value), i + j = n → IntsAre ys ((ks.take i).map g) → LCg.CompRest prog w A h₀ L m env elt x scope cl s S P Fin j i ys news := by
    intro j
    induction j with
    | zero =>
      intro i ys hi hy
      have e : i = ks.length := by (first | lia | omega)
      subst e
      rw [List.take_length] at hy
      exact LCg.CompRest.zero (fin ys hy)
    | succ j ih =>
      intro i ys hi hy
      refine LCg.CompRest.succ ?_
      intro v I oI C oC D m₂ h tk E' hv hC hx F N off ne
      obtain ⟨k, hk, hv'⟩ := hP i v (by (first | lia | omega)) hv
      refine wpAny_mono (turn k v I oI C oC D m₂ ys h tk E' (List.mem_of_getElem? hk) hv' hC hx F N off ne True.intro) (fun y s₂ hq => ?_) fun _ _ e => e
      obtain ⟨h', tk', nw, e, F', N', off', hS, hn, t', hy'⟩ := hq
      rw [hn] at N' off' hS
      refine ⟨h', tk', news, e, F', N', off', hS, ?_⟩
      rw [hy']
      refine ih (i + 1) _ (by (first | lia | omega)) ?_
      rw [List.take_add_one, hk]
      simpa using IntsAre.append hy (.cons (g k) t' .nil)
  exact key n 0 [] (by (first | lia | omega)) (by simp only [List.take_zero, List.map_nil]; exact .nil)
end
/-- a comprehension over a text -/
def TextSrc (prog : Program) (w : World) (A : Around) (h₀ : Heap) (L : Addr) (m : Str → Option Value) (env : Env) (elt : PySem.Expr) (x : Str) (scope : Scope) (cl : List (Str × Addr)) (Fin : Shared → List Value → List (Addr × Obj) → Prop) (xv : Value) (s₁ : Shared) : Prop :=
  ∃ y ty news, xv = .str y ty ∧ A.handled = none ∧ Fr h₀ L s₁.heap m ∧ News h₀ L s₁.heap news ∧ y.cps.size ≤ sizeLine ∧ y.cps.all (· < 128) = true ∧
    ∀ s₂ : Shared, (∃ h, s₂ = { s₁ with heap := h }) → LCg.CompRest prog w A h₀ L m env elt x scope cl s₂ (fun _ => True) (SignAt y) (Fin s₂) y.cps.size 0 [] news
section
variable {prog : Program} {w : World} {A : Around} {E : Value → Shared → Prop} {s : Shared} {h₀ : Heap} {L : Addr} {m : Str → Option Value} {env : Env}
theorem TextSrc.intro {elt : PySem.Expr} {x : Str} {scope : Scope} {cl : List (Str × Addr)} {Fin : Shared → List Value → List (Addr × Obj) → Prop} {y : Str} {ty : Tok} {news : List (Addr × Obj)} {s₁ : Shared} {ks : List Int}
    (hh : A.handled = none) (F : Fr h₀ L s₁.heap m) (N : News h₀ L s₁.heap news) (hb : strInts y = ks) (hsz : ks.length ≤ 1000) (ha : ∀ k ∈ ks, k < 128)
    (g : Int → Int) (turn : ∀ s₂ : Shared, (∃ h, s₂ = { s₁ with heap := h }) → ∀ c t I oI C oC D m₂ ys h tk (E' : Value → Shared → Prop), ((c : Nat) : Int) ∈ ks → LCg.NsObj oC m₂ → m₂ x = some (.str ⟨#[c]⟩ t) → Fr h₀ L h m → News h₀ L h ((I, oI) :: (C, oC) :: (D, LCg.lst ys) :: news) → LCg.Off3 I C D news → ((@Ne Nat I C) ∧ (@Ne Nat I D) ∧ (@Ne Nat C D)) → KPfMark →
      wpAny (model prog w) A (eval elt (compEnvC scope cl C env)) (LCg.CompEnd h₀ L m { s₂ with heap := h, toks := tk } I oI C oC D (LCg.lst ys) (fun _ => True) (fun y news' => KCfEl news (g (c : Int)) y news')) E' { s₂ with heap := h, toks := tk })
    (fin : ∀ s₂ : Shared, (∃ h, s₂ = { s₁ with heap := h }) → ∀ ys, IntsAre ys (ks.map g) → Fin s₂ ys news) : TextSrc prog w A h₀ L m env elt x scope cl Fin (.str y ty) s₁ := by
  have hn : ks.length = y.cps.size := by rw [← hb, strInts_length]; rfl
  refine ⟨y, ty, news, rfl, hh, F, N, (by rw [sizeLine_eq]; (first | lia | omega)), ?_, fun s₂ e => ?_⟩
  · rw [Array.all_eq_true']
    intro c hc
    have : ((c : Nat) : Int) ∈ ks := hb ▸ List.mem_map.mpr ⟨c, Array.mem_toList_iff.mpr hc, rfl⟩
    have := ha _ this
    exact decide_eq_true (by (first | lia | omega))
  · refine text_rest (ks := ks) (fun k v => ∃ (c : Nat) (t : Tok), k = (c : Int) ∧ v = .str ⟨#[c]⟩ t) g hn (fun i v hi hv => ?_) (fun k v I oI C oC D m₂ ys h tk E' hk hv hC hx => ?_) (fun ys hy => fin s₂ e ys hy)
    · obtain ⟨c, t, hc, e⟩ := hv
      refine ⟨(c : Int), ?_, c, t, rfl, e⟩
      rw [← hb, strInts, List.getElem?_map, Array.getElem?_toList, hc]; rfl
    · obtain ⟨c, t, rfl, rfl⟩ := hv
      exact turn s₂ e c t I oI C oC D m₂ ys h tk E' hk hC hx
theorem ListComp_text {elt iter : PySem.Expr} {x : Str} {px : Pos} {scope : Scope} {cl : List (Str × Addr)} {pos : Pos} {Q : Value → Shared → Prop} (F₀ : Fr h₀ L s.heap m)
    (hclos : closureFor scope env = pure cl) (hcell : ∀ y ∈ scope.names, y.2 ≠ .cell) (hkind : scope.kind = .function)
    (hnames : ∀ y ∈ scope.names, y.2 = .local → scope.names.lookup y.1 = some .local) (hx : scope.names.lookup x = some .local)
    (h : wpAny (model prog w) A (eval iter env) (TextSrc prog w A h₀ L m env elt x scope cl (fun s₂ => LCg.FinE h₀ L m s₂ Q)) E s)
    (hs : ∀ x, foldedSetIterable iter env x = pure x) :
    wpAny (model prog w) A (eval (.ListComp elt [⟨.Name x px, iter, [], 0⟩] scope pos) env) Q E s := by
  rw [eval_ListComp]
  refine wpAny_comprehension_free (use := none) rfl hs hclos hkind hnames (wpAny_mono h (fun xv s₁ h₁ => ?_) fun _ _ e => e)
  obtain ⟨y, ty, news, rfl, hh, F, N, hsz, ha, R⟩ := h₁
  refine wpAny_pyIter_ascii ha ?_
  refine LCg.block_U (Walks.strAscii hh s₁.heap.objs.size y ty) hsz (fun i h st => by obtain ⟨o, e, _⟩ := st; exact ⟨o, e⟩) (fun i h h' o nw st e e' _ _ _ => ?_) hcell hkind hx ⟨_, Heap.get?_push_size _ rfl, rfl, rfl⟩ (fun b hb => ?_)
    (F.keeps fun _ _ e => Heap.get?_push_of_some _ e) (N.grown fun _ _ e => Heap.get?_push_of_some _ e) (Nat.ne_of_lt F.ns.lt) (next_is_new F) (fun p hp => Nat.ne_of_lt (Heap.lt_size (N p hp).1)) trivial (R _ ⟨_, rfl⟩) ?_
  · obtain ⟨o', q, r⟩ := st
    rw [e] at q; cases q
    exact ⟨o, e', r⟩
  · rw [List.mem_singleton.mp hb]
    show s₁.heap.objs.size < (s₁.heap.push _).objs.size
    rw [Heap.size_push]; exact Nat.lt_succ_self _
  · intro D C h tk m' ys news' F' N' o1 hn hC₀ hD₀ hCL hDL hCD offC fin
    refine ⟨m', hn, fun h'' hs'' => fin D h'' tk (F'.change hs'' hCL hC₀) (fun p hp => ?_) o1⟩
    refine ⟨hs''.extBut _ _ ?_ (N' p hp).1, (N' p hp).2⟩
    rcases List.mem_cons.mp hp with rfl | hp
    · exact Ne.symm hCD
    · exact offC p hp
end
end
theorem wd3 : True := by
  k_with "mine call ref" => ((k_here; (with_reducible show wpAny _ _ (call (Value.ref 122) _) _ _ _); k_dflt (refine' Spec.use0 (unit_bound_spec _ _ _ _ _ _ _ ?c0q30 ?c1q30) ?k1 ?k2 ?k3 ?k4 ?k5 ?kK ?ks ?kd ?ku ?_; (case c0q30 => assumption); (case c1q30 => (first | lia | omega)); k_extra "my sides"; intro t' h' tk' F' N'; (try k_sweep); (try dsimp only))))
  k_with "mine call ref" => ((k_here; (with_reducible show wpAny _ _ (call (Value.ref 198) _) _ _ _); k_dflt (refine' Spec.useL (figures_for_int _ _ _ _ _ ?c0q31 ?c1q31 ?c2q31) ?k1 ?k2 ?k3 ?k4 ?k5 ?kK ?ks ?kd ?ku ?_; (case c0q31 => (first | (first | lia | omega) | (split <;> (first | lia | omega)) | (dsimp only; (first | lia | omega)))); (case c1q31 => (first | lia | omega)); (case c2q31 => (first | lia | omega)); k_extra "my sides"; intro l' vs' n' fs' h' tk' F' N' hne' hI' hL' hB' hE'; (try dsimp only [OffN, OffP] at hne'); (try k_sweep); (try dsimp only))))
  trivial
section
theorem disp_plain {fs : List Int} {d : Nat} {u : Int} {sg sep lead : Bool} (h : fs = List.map Int.ofNat (figs 10 (d : Int).toNat (if u < 0 then -u else u).toNat)) (hs : sg = false) :
    fs.map (fun k => 48 + k) = dispOct d sg sep lead u := by
  rw [codesEq h, dispOct, if_pos hs]
theorem disp_sep {fs : List Int} {d : Nat} {u : Int} {sg sep lead : Bool} {c : List Int} (h : fs = List.map Int.ofNat (figs 10 (d : Int).toNat (if u < 0 then -u else u).toNat)) (hs : sg = true) (hp : sep = true)
    (hc : (lead = true ∧ c = [signAt u] ++ fs.map (fun k => 48 + k)) ∨ (lead = false ∧ c = fs.map (fun k => 48 + k) ++ [signAt u])) : c = dispOct d sg sep lead u := by
  rw [codesEq h] at hc
  rw [dispOct, if_neg (by simp [hs]), if_pos hp]
  rcases hc with ⟨h1, h2⟩ | ⟨h1, h2⟩ <;> simp [h1, h2]
theorem disp_over {fs : List Int} {d : Nat} {u p : Int} {sg sep lead : Bool} {b : List UInt8} (h : fs = List.map Int.ofNat (figs 10 (d : Int).toNat (if u < 0 then -u else u).toNat)) (hs : sg = true) (hp : sep = false)
    (hb : b = (rowOf u).toList) (hc : p = if lead = true then 0 else ((fs.map (fun k => 48 + k)).length : Int) - 1) :
    (fs.map (fun k => 48 + k)).set p.toNat ((((b.getD ((fs.map (fun k => 48 + k)).getD p.toNat 0 - 48).toNat 0).toNat : Nat) : Int)) = dispOct d sg sep lead u := by
  have e : p.toNat = if lead = true then 0 else d - 1 := by
    rw [hc, codesEq h, codesOf_length]
    split
    · rfl
    · exact nat1 d
  rw [codesEq h, dispOct, if_neg (by simp [hs]), if_neg (by simp [hp]), e, hb]
theorem display_octets_spec (w : World) (x dx : Addr) (es : List DictEntry) (n : Nat) {cat us sgn : Str} {size d : Nat} {sg sep : Bool} (hS : ShapeIs es cat us size d sg sep sgn) (h0 : 1 ≤ d) (h1 : d ≤ 18) (u : Int) (tu : Tok) :
    Spec w (hd.heap_1 w.params) 203 [.ref x, .int u tu] [(x, instObj 111 dx), (dx, dictOf es n)] 2 (fun v new => new = [] ∧ ∃ t, v = .bytes (byteArr (dispOct d sg sep (sgn == Str.ofString "leading") u)) t) := by
  obtain ⟨_, _, _, ⟨ts, hsign⟩, hsep, ⟨td, hdig⟩, hsg⟩ := hS
  unfold Spec
  intro dp un gd cn cs a ccd cl outer A₀ base h₀ L m mg mb mean news s Q E B F X N T hk hs hroom hun ret
  refine enterC (binds := [(Str.ofString "shape", .ref x), (Str.ofString "units", .int u tu)]) B F X N T rfl rfl hk hs (by k_is) (by k_is) (show dp < recursionLimit from Nat.lt_of_le_of_lt (Nat.le_add_right _ _) hroom) (BindsTo.of_eq rfl) (locs rfl) ret ?_ rfl rfl rfl (by decide)
  clear B F X N T ret hs
  intro g L' h₁ gs5 dr5 tk os5 F' N' B' X' T' l1
  (try dsimp only)
  k_fold
  k_extra "my steps"
  all_goals (refine Ends.plain (by k_asm) (by k_asm) (by kcj_all) ⟨rfl, _, bytesVal ?_⟩)
  all_goals first
    | exact disp_plain (by assumption) (by assumption)
    | (refine disp_sep (by assumption) (by assumption) (by assumption) ?_; first | (refine .inl ⟨by assumption, ?_⟩; simp only [signAt, if_pos, if_neg, not_false_eq_true, *]; done) | (refine .inr ⟨by assumption, ?_⟩; simp only [signAt, if_pos, if_neg, not_false_eq_true, *]; done))
    | exact disp_over (by assumption) (by assumption) (by assumption) (by simp only [rowOf, if_pos, if_neg, not_false_eq_true, *]) (by first | exact (if_pos (by assumption)).symm | exact (if_neg (ne_true_of_eq_false (by assumption))).symm)
end
theorem wd4 : True := by
  k_with "mine call ref" => ((k_here; (with_reducible show wpAny _ _ (call (Value.ref 122) _) _ _ _); k_dflt (refine' Spec.use0 (unit_bound_spec _ _ _ _ _ _ _ ?c0q32 ?c1q32) ?k1 ?k2 ?k3 ?k4 ?k5 ?kK ?ks ?kd ?ku ?_; (case c0q32 => assumption); (case c1q32 => (first | lia | omega)); k_extra "my sides"; intro t' h' tk' F' N'; (try k_sweep); (try dsimp only))))
  k_with "mine call ref" => ((k_here; (with_reducible show wpAny _ _ (call (Value.ref 198) _) _ _ _); k_dflt (refine' Spec.useL (figures_for_int _ _ _ _ _ ?c0q33 ?c1q33 ?c2q33) ?k1 ?k2 ?k3 ?k4 ?k5 ?kK ?ks ?kd ?ku ?_; (case c0q33 => (first | (first | lia | omega) | (split <;> (first | lia | omega)) | (dsimp only; (first | lia | omega)))); (case c1q33 => (first | lia | omega)); (case c2q33 => (first | lia | omega)); k_extra "my sides"; intro l' vs' n' fs' h' tk' F' N' hne' hI' hL' hB' hE'; (try dsimp only [OffN, OffP] at hne'); (try k_sweep); (try dsimp only))))
  trivial
section
theorem rangeSize_two (n : Nat) : Builtin.Range.rangeSize 0 ((2 * n : Nat) : Int) 2 = (n : Int) := by
  unfold Builtin.Range.rangeSize
  simp only [show (2 : Int) > 0 by decide, if_true]
  split <;> (first | lia | omega)
theorem small_two : ∀ n : Nat, n < 21 → Builtin.Range.small 0 ((2 * n : Nat) : Int) 2 = true := by decide
theorem small_two' {n : Nat} {b : Int} (hn : n < 21) (h : b = ((2 * n : Nat) : Int)) : Builtin.Range.small 0 b 2 = true := by rw [h]; exact small_two n hn
theorem rangeSize_two' {n : Nat} {b : Int} (h : b = ((2 * n : Nat) : Int)) : Builtin.Range.rangeSize 0 b 2 = (n : Int) := by rw [h]; exact rangeSize_two n
theorem name_list {vs : List Value} {ns : List Int} (h : IntsAre vs ns) : ∃ xs, xs = ns ∧ IntsAre vs xs := ⟨ns, rfl, h⟩
def packMark (sg : Bool) (u : Int) : Int := if sg = true then (if u < 0 then 13 else 12) else 15
def packOct (size : Nat) (sg : Bool) (u : Int) : List Int :=
  (stepKs 0 2 size).map fun k => 16 * ((figs 10 (2 * size - 1) u.natAbs).map Int.ofNat ++ [packMark sg u]).getD k.toNat 0 + ((figs 10 (2 * size - 1) u.natAbs).map Int.ofNat ++ [packMark sg u]).getD (k + 1).toNat 0
theorem all15 {fs : List Int} {mk : Int} (hB : ∀ f ∈ fs, 0 ≤ f ∧ f ≤ 9) (hm : 0 ≤ mk ∧ mk ≤ 15) (j : Nat) : 0 ≤ (fs ++ [mk]).getD j 0 ∧ (fs ++ [mk]).getD j 0 ≤ 15 := by
  rw [List.getD_eq_getElem?_getD]
  cases e : (fs ++ [mk])[j]? with
  | none => simp
  | some y =>
    rw [Option.getD_some]
    rcases List.mem_append.mp (List.mem_of_getElem? e) with h | h
    · have := hB y h; (first | lia | omega)
    · rw [List.mem_singleton.mp h]; exact hm
theorem packs_in {ns fs : List Int} {mk : Int} {l : List Int} (hns : ns = fs ++ [mk]) (hB : ∀ f ∈ fs, 0 ≤ f ∧ f ≤ 9) (hm : 0 ≤ mk ∧ mk ≤ 15) : ∀ x ∈ l.map (fun k => 16 * ns.getD k.toNat 0 + ns.getD (k + 1).toNat 0), 0 ≤ x ∧ x < 256 := by
  subst hns
  intro x hx
  obtain ⟨k, _, rfl⟩ := List.mem_map.mp hx
  have h1 := all15 hB hm k.toNat
  have h2 := all15 hB hm (k + 1).toNat
  (first | lia | omega)
theorem pack_eq {ns fs : List Int} {size : Nat} {sg : Bool} {u mk : Int} (hns : ns = fs ++ [mk]) (hE : fs = List.map Int.ofNat (figs 10 (2 * (size : Int) - 1).toNat (if u < 0 then -u else u).toNat)) (hm : mk = packMark sg u) :
    (stepKs 0 2 size).map (fun k => 16 * ns.getD k.toNat 0 + ns.getD (k + 1).toNat 0) = packOct size sg u := by
  rw [hns, hE, hm, absNat, packOct, nat2]
theorem wd5 : True := by
  k_with "my bytes" => (exact packs_in (by assumption) (by assumption) (by assumption))
  k_with "mine eval ListComp" => ((k_here; k_dflt (refine ListComp_step (F₀ := by k_asm) (by with_unfolding_all rfl) (by decide) (by rfl) (by decide) (by rfl) ?_ (fun _ => rfl))))
  k_with "mine exec If" => ((k_here; (rename CutMark => hHM); refine Held.mk ?_))
  trivial
theorem mark_in (sg : Bool) (u : Int) : 0 ≤ packMark sg u ∧ packMark sg u ≤ 15 := by
  unfold packMark
  split
  · split <;> decide
  · decide
theorem packed_octets_spec (w : World) (x dx : Addr) (es : List DictEntry) (n : Nat) {cat us sgn : Str} {size d : Nat} {sg sep : Bool} (hS : ShapeIs es cat us size d sg sep sgn) (h0 : 1 ≤ size) (h1 : size ≤ 10) (u : Int) (tu : Tok) :
    Spec w (hd.heap_1 w.params) 208 [.ref x, .int u tu] [(x, instObj 111 dx), (dx, dictOf es n)] 2 (fun v new => new = [] ∧ ∃ t, v = .bytes (byteArr (packOct size sg u)) t) := by
  obtain ⟨_, ⟨tz, hsize⟩, _, _, _, _, hsg⟩ := hS
  unfold Spec
  intro dp un gd cn cs a ccd cl outer A₀ base h₀ L m mg mb mean news s Q E B F X N T hk hs hroom hun ret
  refine enterCC (binds := [(Str.ofString "shape", .ref x), (Str.ofString "units", .int u tu)]) B F X N T rfl rfl hk hs (by k_is) (by k_is) (show dp < recursionLimit from Nat.lt_of_le_of_lt (Nat.le_add_right _ _) hroom) (BindsTo.of_eq rfl) rfl (by decide +kernel) ret ?_ rfl rfl rfl
  clear B F X N T ret hs
  intro g L' h₁ gs5 dr5 tk os5 cells F' N' Y' B' X' T' l1
  (try k_lt l1); k_cells Y'; (try simp only [List.cons_append, List.nil_append] at N')
  (try dsimp only)
  show wpAny _ _ _ _ _ _
  k_fold
  have hHM : CutMark := CutMark.mk
  k_extra "my steps"
  unfold Held
  clear hHM
  rename Fr _ _ _ _ => hF
  rename News _ _ _ _ => hN
  refine cut_stmt (Str.ofString "mark") (fun t => .int (packMark sg u) t) hF hN ?_ ?_
  · cases sg
    · k_extra "my steps"
      exact CutE.intro (by k_asm) (by k_asm) (fun _ h => h) (stored_same rfl)
    · by_cases hu : u < 0
      · rw [show packMark true u = 13 from (if_pos rfl).trans (if_pos hu)]
        k_extra "my steps"
        exact CutE.intro (by k_asm) (by k_asm) (fun _ h => h) rfl
      · rw [show packMark true u = 12 from (if_pos rfl).trans (if_neg hu)]
        k_extra "my steps"
        exact CutE.intro (by k_asm) (by k_asm) (fun _ h => h) rfl
  intro t6 h6 k6 F6 N6
  clear hF hN
  have hmk := mark_in sg u
  show wpAny _ _ _ _ _ _
  (try k_fold)
  k_extra "my steps"
  all_goals (
    rename IsRange _ _ _ _ _ _ _ _ => hR
    rename Fr _ _ _ _ => hF
    rename News _ _ _ _ => hN
    rename IntsAre _ (_ ++ _) => hI
    rename ((List.length _ : Nat) : Int) = _ => hL
    rename (_ = List.map Int.ofNat _) => hE
    rename (∀ f ∈ _, 0 ≤ f ∧ f ≤ 9) => hB
    obtain ⟨ns, hns, hI2⟩ := name_list hI
    have hlen : ns.length = 2 * size := by rw [hns, List.length_append, List.length_singleton]; (first | lia | omega)
    clear hI
    (try simp only [List.cons_append, List.nil_append] at hN)
    refine StepSrc.intro size rfl hF hN hR (small_two' (n := size) (by (first | lia | omega)) (by (first | lia | omega))) (rangeSize_two' (by (first | lia | omega))) (by rw [sizeLine_eq]; (first | lia | omega)) (fun k => 16 * ns.getD k.toNat 0 + ns.getD (k + 1).toNat 0) ?_ ?_
    · intro s₂ hs₂ i k t I oI C oC D m₂ ys h tk E' hi hk hC hx F₂ N₂ off ne hMk
      obtain ⟨h9, rfl⟩ := hs₂
      have hk2 : 0 ≤ k ∧ k + 1 < ns.length := by (first | lia | omega)
      clear hF hN hR
      simp only [LCg.Off3, and_true] at off
      (try dsimp only)
      show wpAny _ _ _ _ _ _
      k_fold
      k_extra "my steps"
    · intro s₂ hs₂ ys hy D h tk F₂ N₂ off
      obtain ⟨h9, rfl⟩ := hs₂
      clear hF hN hR
      (try dsimp only)
      (try k_fold)
      k_extra "my steps"
      refine Ends.plain (by k_asm) (by k_asm) (by kcj_all) ⟨rfl, _, bytesVal ?_⟩
      exact pack_eq hns hE rfl)

end
theorem wd6 : True := by
  k_with_none
  k_with "my fold" => (((first | (with_reducible show wpAny _ _ (exec (PySem.Stmt.Assign _ _ _) _) _ _ _) | (with_reducible show wpAny _ _ (exec (PySem.Stmt.Return _ _) _) _ _ _) | (with_reducible show wpAny _ _ (exec (PySem.Stmt.If _ _ _ _) _) _ _ _) | (with_reducible show wpAny _ _ (exec (PySem.Stmt.Expr _ _) _) _ _ _) | (with_reducible show wpAny _ _ (exec (PySem.Stmt.AugAssign _ _ _ _) _) _ _ _) | (with_reducible show wpAny _ _ (eval (PySem.Expr.BinOp _ _ _ _) _) _ _ _) | (with_reducible show wpAny _ _ (eval (PySem.Expr.Call _ _ _ _) _) _ _ _)); (fail_if_success (fail_if_success k_fold)); refine (let qk := _; keepQ qk ?_)))
  k_with "my get" => (assumption)
  k_with "mine call type:range" => ((k_here; (rename Fr _ _ _ _ => F'); (rename News _ _ _ _ => N'); (with_unfolding_all refine range1_rows F' N' ?_; intro _ _ _ _ _ _ _ _ _)))
  k_with "my steps" => (repeat' (first | ((fail_if_success (fail_if_success k_unfold)); (try dsimp only); refine (?_ : wpAny _ _ _ _ _ _)) | (k_unfold; (try dsimp only)) | k_extra "my fold" | ((fail_if_success (with_reducible show wpAny _ _ (pyIter _) (fun it s₂ => LoopAtV _ _ _ _ _ _ _ _ _ it s₂) _ _)); (fail_if_success (with_reducible show wpAny _ _ (pyIter _) (fun it s₂ => PairAt3 _ _ _ _ _ _ _ _ _ _ it s₂) _ _)); (fail_if_success (with_reducible show LoopStep3 _ _ _ _ _ _ _ _ _ _)); (fail_if_success (with_reducible show InvEndN _ _ _ _ _ _ _)); (fail_if_success (with_reducible show Ends _ _ _ _ _ _)); first | walk1 | (dsimp only; walk1) | (dsimp only; k_unfold; (try dsimp only)))))
  k_with "my plain steps" => (repeat' (first | ((fail_if_success (fail_if_success k_unfold)); (try dsimp only); refine (?_ : wpAny _ _ _ _ _ _)) | (k_unfold; (try dsimp only)) | ((fail_if_success (with_reducible show wpAny _ _ (pyIter _) (fun it s₂ => LoopAtV _ _ _ _ _ _ _ _ _ it s₂) _ _)); (fail_if_success (with_reducible show wpAny _ _ (pyIter _) (fun it s₂ => PairAt3 _ _ _ _ _ _ _ _ _ _ it s₂) _ _)); (fail_if_success (with_reducible show LoopStep3 _ _ _ _ _ _ _ _ _ _)); (fail_if_success (with_reducible show InvEndN _ _ _ _ _ _ _)); (fail_if_success (with_reducible show Ends _ _ _ _ _ _)); first | walk1 | (dsimp only; walk1) | (dsimp only; k_unfold; (try dsimp only)))))
  k_with "my bytes" => (first | exact all48 (by assumption) | (refine all_cons (by decide) ?_; k_extra "my bytes") | (refine all_snoc (by decide) ?_; k_extra "my bytes"))
  k_with "my size" => (first | (first | lia | omega) | ((try simp only [List.length_map, List.length_cons, List.length_append, List.length_nil, List.length_set, List.length_reverse, lits_length, figs_length, stepKs_length]); (first | lia | omega)))
  k_with "mine call type:bytes" => ((k_here; (with_reducible show wpAny _ _ (call (Value.type "bytes") [Value.ref _]) _ _ _); k_dflt (refine' bytesOf_K ?Fq44 ?Nq44 ?mq44 ?iq44 ?rq44 ?zq44 ?hq44 ?_; (case Fq44 => k_asm); (case Nq44 => k_asm); (case mq44 => k_mem); (case iq44 => assumption); (case rq44 => k_extra "my bytes"); (case zq44 => k_extra "my size"); (case hq44 => exact rfl); k_whole); intro h' t' k' F' N'; (try k_sweep)))
  k_with "my bytes" => ((refine all_set (u8_in _) ?_; k_extra "my bytes"))
  k_with "my byte at" => ((refine fig_at (by assumption) ?_; k_extra "my size"))
  k_with "mine subscriptTail" => ((k_here; (with_reducible show wpAny _ _ (subscriptTail _ _ (Value.bytes _ _) (Value.int _ _)) _ _ _); k_dflt (refine' bytesItem_K ?aq47 ?bq47 ?_ ?hsq47 ?htq47; (case aq47 => k_extra "my byte at"); (case bq47 => decide); (case hsq47 => with_unfolding_all rfl); (case htq47 => intro _; with_unfolding_all rfl))))
  k_with "my index" => (first | (first | lia | omega) | decide | assumption)
  k_with "mine compareOp In" => ((k_here; (with_reducible show wpAny _ _ (compareOp CmpOp.In (Value.int _ _) (Value.bytes _ _)) _ _ _); k_dflt (refine' in_bytes ?aq49 ?bq49 ?_; (case aq49 => (first | lia | omega)); (case bq49 => (first | lia | omega)))))
  k_with "mine getMethod" => ((k_here; (with_reducible show wpAny _ _ (getMethod (Value.bytes _ _) "index" _) _ _ _); refine index_method ?_))
  k_with "mine call builtin:bytes.index" => ((k_here; (with_reducible show wpAny _ _ (call (Value.builtin "bytes.index") [Value.bytes _ _, Value.int _ _]) _ _ _); k_dflt (refine' bytes_index _ ?aq51 ?bq51 ?cq51 ?dq51 ?_; (case aq51 => (first | lia | omega)); (case bq51 => (first | lia | omega)); (case cq51 => decide); (case dq51 => assumption)); intro _ _; (try dsimp only)))
  k_with "mine subscriptTail" => ((k_here; (with_reducible show wpAny _ _ (subscriptTail _ _ (Value.bytes (byteArr _) _) (Value.int _ _)) _ _ _); k_dflt (refine' bytesInt_K ?aq52 ?bq52 ?rq52 ?zq52 ?_ ?hsq52 ?htq52; (case aq52 => (first | lia | omega)); (case bq52 => assumption); (case rq52 => first | assumption | k_extra "my bytes"); (case zq52 => k_extra "my size"); (case hsq52 => with_unfolding_all rfl); (case htq52 => intro _; with_unfolding_all rfl)); intro _ _; (try dsimp only)))
  k_with "my pick" => ((with_reducible first | exact kmk_upto (by l_ints) (by (first | lia | omega)) | exact kmk_from (by l_ints) (by (first | lia | omega)) | exact kmk_upto_neg (by l_ints) (by (first | lia | omega)) | exact kmk_from_neg (by l_ints) (by (first | lia | omega))))
  k_with "mine subscriptTail Name Slice ref ref" => ((k_here; (with_reducible show wpAny _ _ (subscriptTail _ (PySem.Expr.Slice _ _ none _) (Value.ref _) (Value.ref _)) _ _ _); k_dflt (refine' kmk_slice_ints ?Fq54 ?Nq54 ?lq54 ?pq54 ?qq54 ?iq54 ?mq54 ?cq54 ?_ ?sq54 ?tq54 ?zq54; (case Fq54 => k_asm); (case Nq54 => k_asm); (case lq54 => kmk_list); (case pq54 => kmk_part); (case qq54 => kmk_part); (case iq54 => l_ints); (case mq54 => k_extra "my pick"); (case cq54 => kmk_len); (case sq54 => with_unfolding_all rfl); (case tq54 => kmk_pure); (case zq54 => kmk_size)); intro D' ws' h' F' N' l1 hI' hC' hL'; (try k_lt l1); (try k_sweep)))
  k_with "my ints" => (first | l_ints | exact IntsAre.cons _ _ IntsAre.nil | exact IntsAre.cons _ _ (IntsAre.cons _ _ IntsAre.nil))
  k_with "mine binaryOp Add ref ref" => ((k_here; (with_reducible show wpAny _ _ (binaryOp _ (Value.ref _) (Value.ref _)) _ _ _); k_dflt (refine' kmk_add_ints ?Fq56 ?Nq56 ?aq56 ?bq56 ?iq56 ?jq56 ?_ ?zq56; (case Fq56 => k_asm); (case Nq56 => k_asm); (case aq56 => kmk_list); (case bq56 => kmk_list); (case iq56 => k_extra "my ints"); (case jq56 => k_extra "my ints"); (case zq56 => first | ((simp only [sizeLine_eq]); k_extra "my size") | kmk_sum)); intro D' ws' h' F' N' l1 hI'; (try k_lt l1); (try k_sweep)))
  k_with "mine call builtin:len" => ((k_here; (with_reducible show wpAny _ _ (call (Value.builtin "len") [Value.bytes (byteArr _) _]) _ _ _); k_dflt (refine' len_byteArr ?zq57 ?_; (case zq57 => k_extra "my size")); intro _ _; (try dsimp only)))
  k_with "mine call builtin:ord" => ((k_here; (with_reducible show wpAny _ _ (call (Value.builtin "ord") [Value.str _ _]) _ _ _); refine ord_of_char ?_; (try dsimp only)))
  k_with "my text slice" => (((with_reducible rename Fr _ _ _ _ => F'); (with_reducible rename News _ _ _ _ => N'); first | ((with_reducible show wpAny _ _ (subscriptTail _ (Expr.Slice none (some _) none _) _ _) _ _ _); (refine slice_strN_ns_len (hsz := ?hszq59) (s := ⟨_, _, _, _, _⟩) F' N' ?_); (case hszq59 => rw [sizeLine_eq]; (first | lia | omega))) | ((with_reducible show wpAny _ _ (subscriptTail _ (Expr.Slice (some _) none none _) _ _) _ _ _); (refine slice_strN_sn_len (hsz := ?hszq59) (s := ⟨_, _, _, _, _⟩) F' N' ?_); (case hszq59 => rw [sizeLine_eq]; (first | lia | omega)))))
  k_with "my units" => (((try simp only [units_in1, units_deeper, Around.mark_units]); (try dsimp only [ktrTop]); (first | lia | omega)))
  k_with "my tail" => ((first | assumption | (refine' And.right ?_; first | assumption | (refine' And.right ?_; first | assumption | (refine' And.right ?_; first | assumption | (refine' And.right ?_; first | assumption | (refine' And.right ?_; first | assumption | (refine' And.right ?_; first | assumption | (refine' And.right ?_; first | assumption | (refine' And.right ?_; first | assumption | (refine' And.right ?_; assumption)))))))))))
  k_with "my conj" => (first | k_extra "my tail" | (refine' And.left ?_; k_extra "my tail") | (refine' And.left ?_; refine' And.left ?_; k_extra "my tail") | (refine' And.right ?_; refine' And.left ?_; k_extra "my tail"))
  k_with "my ne" => ((refine neN ?_; (try dsimp only); first | (refine' Nat.ne_of_lt ?_; k_extra "my conj") | (refine' Nat.ne_of_gt ?_; k_extra "my conj") | k_extra "my conj" | (refine' Ne.symm ?_; k_extra "my conj") | (first | lia | omega)))
  k_with "my sides" => (((case k1 => k_asm); (case k2 => k_asm); (case k3 => k_asm); (case k4 => k_asm); (case k5 => k_asm); (case kK => first | assumption | exact rfl); (case ks => kcj_all); (case kd => first | ((try simp only [depth_mark, depth_under_make, depth_under_kw, depth_in1, depth_deeper]); (try dsimp only [ktrTop]); first | (refine' room3 ?hhq64 ?llq64; (case hhq64 => assumption); (case llq64 => exact Nat.le_of_ble_eq_true rfl)) | (first | lia | omega)) | (with_unfolding_all exact Nat.le_of_ble_eq_true rfl)); (case ku => first | ((try simp only [units_in1, units_deeper, Around.mark_units]); (try dsimp only [ktrTop]); first | (refine' room3 ?hhq64 ?llq64; (case hhq64 => assumption); (case llq64 => exact Nat.le_of_ble_eq_true rfl)) | (first | lia | omega)) | (with_unfolding_all exact Nat.le_of_ble_eq_true rfl))))
  k_with "mine call ref" => ((k_here; (with_reducible show wpAny _ _ (call (Value.ref 122) _) _ _ _); k_dflt (refine' Spec.use0 (unit_bound_spec _ _ _ _ _ _ _ ?c0q65 ?c1q65) ?k1 ?k2 ?k3 ?k4 ?k5 ?kK ?ks ?kd ?ku ?_; (case c0q65 => assumption); (case c1q65 => (first | lia | omega)); k_extra "my sides"; intro t' h' tk' F' N'; (try k_sweep); (try dsimp only))))
  trivial
section
theorem bins_turn {N : Nat} {rest : Int} {k : Nat} (h : rest = ((N / 256 ^ k : Nat) : Int)) :
    rest.fdiv 256 = ((N / 256 ^ (k + 1) : Nat) : Int) ∧ (lits 256 k N).map Int.ofNat ++ [rest.fmod 256] = (lits 256 (k + 1) N).map Int.ofNat := by
  subst h
  rw [lits_snoc, Nat.pow_succ, ← Nat.div_div_eq_div_mul]
  refine ⟨?_, ?_⟩
  · rw [Int.fdiv_eq_ediv_of_nonneg _ (by decide)]; rfl
  · rw [List.map_append, Int.fmod_eq_emod_of_nonneg _ (by decide)]; rfl
def binOct (size : Nat) (u : Int) : List Int := (figs 256 size (Int.fmod u (256 ^ size)).toNat).map Int.ofNat
theorem bins_in {c n : Nat} : ∀ x ∈ (figs 256 c n).map Int.ofNat, 0 ≤ x ∧ x < 256 := by
  intro x hx
  obtain ⟨d, hd, rfl⟩ := List.mem_map.mp hx
  have := figs_lt (by decide) _ _ d hd
  exact ⟨Int.natCast_nonneg d, by show (d : Int) < 256; (first | lia | omega)⟩
theorem fmod_pow_nonneg (u : Int) (n : Nat) : 0 ≤ Int.fmod u (256 ^ n) := Int.fmod_nonneg_of_pos _ (Int.pow_pos (by decide))
theorem bins_rev {c n : Nat} : ((lits 256 c n).map Int.ofNat).reverse = (figs 256 c n).map Int.ofNat := by rw [← List.map_reverse, ← figs_lits]
theorem bins_in' {c n : Nat} : ∀ x ∈ ((lits 256 c n).map Int.ofNat).reverse, 0 ≤ x ∧ x < 256 := by rw [bins_rev]; exact bins_in
theorem wd7 : True := by
  k_with "my bytes" => (exact bins_in')
  trivial
theorem binary_octets_spec (w : World) (x dx : Addr) (es : List DictEntry) (n : Nat) {cat us sgn : Str} {size d : Nat} {sg sep : Bool} (hS : ShapeIs es cat us size d sg sep sgn) (h1 : size ≤ 8) (u : Int) (tu : Tok) :
    Spec w (hd.heap_1 w.params) 215 [.ref x, .int u tu] [(x, instObj 111 dx), (dx, dictOf es n)] 2 (fun v new => new = [] ∧ ∃ t, v = .bytes (byteArr (binOct size u)) t) := by
  obtain ⟨_, ⟨tz, hsize⟩, _, _, _, _, _⟩ := hS
  unfold Spec
  intro dp un gd cn cs a ccd cl outer A₀ base h₀ L m mg mb mean news s Q E B F X N T hk hs hroom hun ret
  refine enterC (binds := [(Str.ofString "shape", .ref x), (Str.ofString "units", .int u tu)]) B F X N T rfl rfl hk hs (by k_is) (by k_is) (show dp < recursionLimit from Nat.lt_of_le_of_lt (Nat.le_add_right _ _) hroom) (BindsTo.of_eq rfl) (locs rfl) ret ?_ rfl rfl rfl (by decide)
  clear B F X N T ret hs
  intro g L' h₁ gs5 dr5 tk os5 F' N' B' X' T' l1
  (try dsimp only)
  k_fold
  k_extra "my steps"
  rename IsRange _ _ _ _ _ _ _ _ => hR
  rename Fr _ _ _ _ => hF
  rename News _ _ _ _ => hN
  obtain ⟨l, rfl⟩ := name2 hN
  have hN2 := cb_drop (news := [(l, listOf #[] 0), (x, instObj 111 dx), (dx, dictOf es n)]) hN (by kcj_all)
  clear hN
  generalize hR0 : Int.fmod u (256 ^ ((size : Int).toNat)) = R at hF
  have hR1 : 0 ≤ R := by rw [← hR0]; exact fmod_pow_nonneg _ _
  obtain ⟨M, rfl⟩ := Int.eq_ofNat_of_zero_le hR1
  refine kst_range (σ := List Value × Nat × Int × Tok) (fun c => [(l, listOf c.1.toArray c.2.1), (x, instObj 111 dx), (dx, dictOf es n)]) (fun c => [(Str.ofString "rest", .int c.2.2.1 c.2.2.2)]) (fun _ => True) []
    (fun pre c => IntsAre c.1 ((lits 256 pre.length M).map Int.ofNat) ∧ c.2.2.1 = ((M / 256 ^ pre.length : Nat) : Int)) ([], 0, (M : Int), _) rfl hR (small_one (by (first | lia | omega)) (by (first | lia | omega)) (by (first | lia | omega)) (by (first | lia | omega))) (rangeSize_nat _ _) hF hN2 trivial (by kst_all) ⟨.nil, by simp⟩ ?_ ?_
  · intro c pre k t u' h tk own hk1 hlt hoff _ hP F₁ N₁
    obtain ⟨vs, nn, rest, tr⟩ := c
    obtain ⟨hi, hr⟩ := hP
    dsimp only at hi hr F₁ N₁
    have hlen : vs.length ≤ 20 := by have := hi.length; rw [List.length_map, lits_length] at this; (first | lia | omega)
    clear hF hN2 hR
    have hMk := kstMark
    simp only [List.cons_append, List.nil_append] at N₁
    show wpAny _ _ _ _ _ _
    k_fold
    k_extra "my steps"
    refine kst_end (_, _, _, _) (by assumption) (by assumption) (by kst_in) (by first | (intro p hp; kst_mem) | kst_anyIn) (by rfl) trivial (by kst_all) ?_ ?_
    · intro z h1 h2 h3
      have h4 := h2 _ (List.Mem.head _)
      dsimp only at h4
      simp [kstB, h1, h4]
    · dsimp only
      rw [List.length_append, List.length_singleton]
      obtain ⟨e1, e2⟩ := bins_turn (N := M) (k := pre.length) hr
      rw [← e2, e1]
      exact ⟨by rw [List.concat_eq_append]; exact hi.append (.cons _ _ .nil), rfl⟩
  · intro c u' h tk _ hP F₁ N₁
    obtain ⟨vs, nn, rest, tr⟩ := c
    obtain ⟨hi, hr⟩ := hP
    dsimp only at hi hr F₁ N₁
    have hlen : vs.length ≤ 20 := by have := hi.length; rw [List.length_map, lits_length, rangeKs_length] at this; (first | lia | omega)
    have hi := hi
    rw [rangeKs_length, Int.sub_zero, Int.toNat_natCast] at hi
    clear hF hN2 hR
    (try dsimp only)
    (try k_fold)
    have hMk := kstMark
    k_extra "my steps"
    refine Ends.plain (by k_asm) (by k_asm) (by kcj_all) ⟨rfl, _, bytesVal ?_⟩
    rw [bins_rev, binOct]
    rw [Int.toNat_natCast] at hR0
    rw [hR0, Int.toNat_natCast]
end
theorem wd8 : True := by
  k_with_none
  k_with "my fold" => (((first | (with_reducible show wpAny _ _ (exec (PySem.Stmt.Assign _ _ _) _) _ _ _) | (with_reducible show wpAny _ _ (exec (PySem.Stmt.Return _ _) _) _ _ _) | (with_reducible show wpAny _ _ (exec (PySem.Stmt.If _ _ _ _) _) _ _ _) | (with_reducible show wpAny _ _ (exec (PySem.Stmt.Expr _ _) _) _ _ _) | (with_reducible show wpAny _ _ (exec (PySem.Stmt.AugAssign _ _ _ _) _) _ _ _) | (with_reducible show wpAny _ _ (eval (PySem.Expr.BinOp _ _ _ _) _) _ _ _) | (with_reducible show wpAny _ _ (eval (PySem.Expr.Call _ _ _ _) _) _ _ _)); (fail_if_success (fail_if_success k_fold)); refine (let qk := _; keepQ qk ?_)))
  k_with "my get" => (assumption)
  k_with "mine call type:range" => ((k_here; (rename Fr _ _ _ _ => F'); (rename News _ _ _ _ => N'); (with_unfolding_all refine range1_rows F' N' ?_; intro _ _ _ _ _ _ _ _ _)))
  k_with "my steps" => (repeat' (first | ((fail_if_success (fail_if_success k_unfold)); (try dsimp only); refine (?_ : wpAny _ _ _ _ _ _)) | (k_unfold; (try dsimp only)) | k_extra "my fold" | ((fail_if_success (with_reducible show wpAny _ _ (pyIter _) (fun it s₂ => LoopAtV _ _ _ _ _ _ _ _ _ it s₂) _ _)); (fail_if_success (with_reducible show wpAny _ _ (pyIter _) (fun it s₂ => PairAt3 _ _ _ _ _ _ _ _ _ _ it s₂) _ _)); (fail_if_success (with_reducible show LoopStep3 _ _ _ _ _ _ _ _ _ _)); (fail_if_success (with_reducible show InvEndN _ _ _ _ _ _ _)); (fail_if_success (with_reducible show Ends _ _ _ _ _ _)); first | walk1 | (dsimp only; walk1) | (dsimp only; k_unfold; (try dsimp only)))))
  k_with "my plain steps" => (repeat' (first | ((fail_if_success (fail_if_success k_unfold)); (try dsimp only); refine (?_ : wpAny _ _ _ _ _ _)) | (k_unfold; (try dsimp only)) | ((fail_if_success (with_reducible show wpAny _ _ (pyIter _) (fun it s₂ => LoopAtV _ _ _ _ _ _ _ _ _ it s₂) _ _)); (fail_if_success (with_reducible show wpAny _ _ (pyIter _) (fun it s₂ => PairAt3 _ _ _ _ _ _ _ _ _ _ it s₂) _ _)); (fail_if_success (with_reducible show LoopStep3 _ _ _ _ _ _ _ _ _ _)); (fail_if_success (with_reducible show InvEndN _ _ _ _ _ _ _)); (fail_if_success (with_reducible show Ends _ _ _ _ _ _)); first | walk1 | (dsimp only; walk1) | (dsimp only; k_unfold; (try dsimp only)))))
  k_with "my bytes" => (first | exact all48 (by assumption) | (refine all_cons (by decide) ?_; k_extra "my bytes") | (refine all_snoc (by decide) ?_; k_extra "my bytes"))
  k_with "my size" => (first | (first | lia | omega) | ((try simp only [List.length_map, List.length_cons, List.length_append, List.length_nil, List.length_set, List.length_reverse, lits_length, figs_length, stepKs_length]); (first | lia | omega)))
  k_with "mine call type:bytes" => ((k_here; (with_reducible show wpAny _ _ (call (Value.type "bytes") [Value.ref _]) _ _ _); k_dflt (refine' bytesOf_K ?Fq74 ?Nq74 ?mq74 ?iq74 ?rq74 ?zq74 ?hq74 ?_; (case Fq74 => k_asm); (case Nq74 => k_asm); (case mq74 => k_mem); (case iq74 => assumption); (case rq74 => k_extra "my bytes"); (case zq74 => k_extra "my size"); (case hq74 => exact rfl); k_whole); intro h' t' k' F' N'; (try k_sweep)))
  k_with "my bytes" => ((refine all_set (u8_in _) ?_; k_extra "my bytes"))
  k_with "my byte at" => ((refine fig_at (by assumption) ?_; k_extra "my size"))
  k_with "mine subscriptTail" => ((k_here; (with_reducible show wpAny _ _ (subscriptTail _ _ (Value.bytes _ _) (Value.int _ _)) _ _ _); k_dflt (refine' bytesItem_K ?aq77 ?bq77 ?_ ?hsq77 ?htq77; (case aq77 => k_extra "my byte at"); (case bq77 => decide); (case hsq77 => with_unfolding_all rfl); (case htq77 => intro _; with_unfolding_all rfl))))
  k_with "my index" => (first | (first | lia | omega) | decide | assumption)
  k_with "mine compareOp In" => ((k_here; (with_reducible show wpAny _ _ (compareOp CmpOp.In (Value.int _ _) (Value.bytes _ _)) _ _ _); k_dflt (refine' in_bytes ?aq79 ?bq79 ?_; (case aq79 => (first | lia | omega)); (case bq79 => (first | lia | omega)))))
  k_with "mine getMethod" => ((k_here; (with_reducible show wpAny _ _ (getMethod (Value.bytes _ _) "index" _) _ _ _); refine index_method ?_))
  k_with "mine call builtin:bytes.index" => ((k_here; (with_reducible show wpAny _ _ (call (Value.builtin "bytes.index") [Value.bytes _ _, Value.int _ _]) _ _ _); k_dflt (refine' bytes_index _ ?aq81 ?bq81 ?cq81 ?dq81 ?_; (case aq81 => (first | lia | omega)); (case bq81 => (first | lia | omega)); (case cq81 => decide); (case dq81 => assumption)); intro _ _; (try dsimp only)))
  k_with "mine subscriptTail" => ((k_here; (with_reducible show wpAny _ _ (subscriptTail _ _ (Value.bytes (byteArr _) _) (Value.int _ _)) _ _ _); k_dflt (refine' bytesInt_K ?aq82 ?bq82 ?rq82 ?zq82 ?_ ?hsq82 ?htq82; (case aq82 => (first | lia | omega)); (case bq82 => assumption); (case rq82 => first | assumption | k_extra "my bytes"); (case zq82 => k_extra "my size"); (case hsq82 => with_unfolding_all rfl); (case htq82 => intro _; with_unfolding_all rfl)); intro _ _; (try dsimp only)))
  k_with "my pick" => ((with_reducible first | exact kmk_upto (by l_ints) (by (first | lia | omega)) | exact kmk_from (by l_ints) (by (first | lia | omega)) | exact kmk_upto_neg (by l_ints) (by (first | lia | omega)) | exact kmk_from_neg (by l_ints) (by (first | lia | omega))))
  k_with "mine subscriptTail Name Slice ref ref" => ((k_here; (with_reducible show wpAny _ _ (subscriptTail _ (PySem.Expr.Slice _ _ none _) (Value.ref _) (Value.ref _)) _ _ _); k_dflt (refine' kmk_slice_ints ?Fq84 ?Nq84 ?lq84 ?pq84 ?qq84 ?iq84 ?mq84 ?cq84 ?_ ?sq84 ?tq84 ?zq84; (case Fq84 => k_asm); (case Nq84 => k_asm); (case lq84 => kmk_list); (case pq84 => kmk_part); (case qq84 => kmk_part); (case iq84 => l_ints); (case mq84 => k_extra "my pick"); (case cq84 => kmk_len); (case sq84 => with_unfolding_all rfl); (case tq84 => kmk_pure); (case zq84 => kmk_size)); intro D' ws' h' F' N' l1 hI' hC' hL'; (try k_lt l1); (try k_sweep)))
  k_with "my ints" => (first | l_ints | exact IntsAre.cons _ _ IntsAre.nil | exact IntsAre.cons _ _ (IntsAre.cons _ _ IntsAre.nil))
  k_with "mine binaryOp Add ref ref" => ((k_here; (with_reducible show wpAny _ _ (binaryOp _ (Value.ref _) (Value.ref _)) _ _ _); k_dflt (refine' kmk_add_ints ?Fq86 ?Nq86 ?aq86 ?bq86 ?iq86 ?jq86 ?_ ?zq86; (case Fq86 => k_asm); (case Nq86 => k_asm); (case aq86 => kmk_list); (case bq86 => kmk_list); (case iq86 => k_extra "my ints"); (case jq86 => k_extra "my ints"); (case zq86 => first | ((simp only [sizeLine_eq]); k_extra "my size") | kmk_sum)); intro D' ws' h' F' N' l1 hI'; (try k_lt l1); (try k_sweep)))
  k_with "mine call builtin:len" => ((k_here; (with_reducible show wpAny _ _ (call (Value.builtin "len") [Value.bytes (byteArr _) _]) _ _ _); k_dflt (refine' len_byteArr ?zq87 ?_; (case zq87 => k_extra "my size")); intro _ _; (try dsimp only)))
  k_with "mine call builtin:ord" => ((k_here; (with_reducible show wpAny _ _ (call (Value.builtin "ord") [Value.str _ _]) _ _ _); refine ord_of_char ?_; (try dsimp only)))
  k_with "my text slice" => (((with_reducible rename Fr _ _ _ _ => F'); (with_reducible rename News _ _ _ _ => N'); first | ((with_reducible show wpAny _ _ (subscriptTail _ (Expr.Slice none (some _) none _) _ _) _ _ _); (refine slice_strN_ns_len (hsz := ?hszq89) (s := ⟨_, _, _, _, _⟩) F' N' ?_); (case hszq89 => rw [sizeLine_eq]; (first | lia | omega))) | ((with_reducible show wpAny _ _ (subscriptTail _ (Expr.Slice (some _) none none _) _ _) _ _ _); (refine slice_strN_sn_len (hsz := ?hszq89) (s := ⟨_, _, _, _, _⟩) F' N' ?_); (case hszq89 => rw [sizeLine_eq]; (first | lia | omega)))))
  k_with "my units" => (((try simp only [units_in1, units_deeper, Around.mark_units]); (try dsimp only [ktrTop]); (first | lia | omega)))
  k_with "my tail" => ((first | assumption | (refine' And.right ?_; first | assumption | (refine' And.right ?_; first | assumption | (refine' And.right ?_; first | assumption | (refine' And.right ?_; first | assumption | (refine' And.right ?_; first | assumption | (refine' And.right ?_; first | assumption | (refine' And.right ?_; first | assumption | (refine' And.right ?_; first | assumption | (refine' And.right ?_; assumption)))))))))))
  k_with "my conj" => (first | k_extra "my tail" | (refine' And.left ?_; k_extra "my tail") | (refine' And.left ?_; refine' And.left ?_; k_extra "my tail") | (refine' And.right ?_; refine' And.left ?_; k_extra "my tail"))
  k_with "my ne" => ((refine neN ?_; (try dsimp only); first | (refine' Nat.ne_of_lt ?_; k_extra "my conj") | (refine' Nat.ne_of_gt ?_; k_extra "my conj") | k_extra "my conj" | (refine' Ne.symm ?_; k_extra "my conj") | (first | lia | omega)))
  k_with "my sides" => (((case k1 => k_asm); (case k2 => k_asm); (case k3 => k_asm); (case k4 => k_asm); (case k5 => k_asm); (case kK => first | assumption | exact rfl); (case ks => kcj_all); (case kd => first | ((try simp only [depth_mark, depth_under_make, depth_under_kw, depth_in1, depth_deeper]); (try dsimp only [ktrTop]); first | (refine' room3 ?hhq94 ?llq94; (case hhq94 => assumption); (case llq94 => exact Nat.le_of_ble_eq_true rfl)) | (first | lia | omega)) | (with_unfolding_all exact Nat.le_of_ble_eq_true rfl)); (case ku => first | ((try simp only [units_in1, units_deeper, Around.mark_units]); (try dsimp only [ktrTop]); first | (refine' room3 ?hhq94 ?llq94; (case hhq94 => assumption); (case llq94 => exact Nat.le_of_ble_eq_true rfl)) | (first | lia | omega)) | (with_unfolding_all exact Nat.le_of_ble_eq_true rfl))))
  k_with "mine call ref" => ((k_here; (with_reducible show wpAny _ _ (call (Value.ref 191) _) _ _ _); k_dflt (refine' Spec.use0 (kept_units_spec _ _ _ _ _ ?c0q95 ?c1q95 _ _) ?k1 ?k2 ?k3 ?k4 ?k5 ?kK ?ks ?kd ?ku ?_; (case c0q95 => assumption); (case c1q95 => (first | lia | omega)); k_extra "my sides"; intro t' h' tk' F' N'; (try k_sweep); (try dsimp only))))
  k_with "mine call ref" => ((k_here; (with_reducible show wpAny _ _ (call (Value.ref 203) _) _ _ _); k_dflt (refine' Spec.use0 (display_octets_spec _ _ _ _ _ ?c0q96 ?c1q96 ?c2q96 _ _) ?k1 ?k2 ?k3 ?k4 ?k5 ?kK ?ks ?kd ?ku ?_; (case c0q96 => assumption); (case c1q96 => (first | lia | omega)); (case c2q96 => (first | lia | omega)); k_extra "my sides"; intro t' h' tk' F' N'; (try k_sweep); (try dsimp only))))
  k_with "mine call ref" => ((k_here; (with_reducible show wpAny _ _ (call (Value.ref 208) _) _ _ _); k_dflt (refine' Spec.use0 (packed_octets_spec _ _ _ _ _ ?c0q97 ?c1q97 ?c2q97 _ _) ?k1 ?k2 ?k3 ?k4 ?k5 ?kK ?ks ?kd ?ku ?_; (case c0q97 => assumption); (case c1q97 => (first | lia | omega)); (case c2q97 => (first | lia | omega)); k_extra "my sides"; intro t' h' tk' F' N'; (try k_sweep); (try dsimp only))))
  k_with "mine call ref" => ((k_here; (with_reducible show wpAny _ _ (call (Value.ref 215) _) _ _ _); k_dflt (refine' Spec.use0 (binary_octets_spec _ _ _ _ _ ?c0q98 ?c1q98 _ _) ?k1 ?k2 ?k3 ?k4 ?k5 ?kK ?ks ?kd ?ku ?_; (case c0q98 => assumption); (case c1q98 => (first | lia | omega)); k_extra "my sides"; intro t' h' tk' F' N'; (try k_sweep); (try dsimp only))))
  trivial
section
def octs (us : Str) (size d : Nat) (sg sep lead : Bool) (u : Int) : List Int :=
  if us = Str.ofString "display" then dispOct d sg sep lead u else if us = Str.ofString "packed" then packOct size sg u else binOct size u
def SizeOk (us : Str) (size : Nat) : Prop := us = Str.ofString "display" ∨ (us = Str.ofString "packed" ∧ 1 ≤ size ∧ size ≤ 10) ∨ (us = Str.ofString "binary" ∧ size ≤ 8) ∨ (us = Str.ofString "index" ∧ size ≤ 8)
theorem octets_for_spec (w : World) (x dx : Addr) (es : List DictEntry) (n : Nat) {cat us sgn : Str} {size d : Nat} {sg sep : Bool} (hS : ShapeIs es cat us size d sg sep sgn) (h0 : 1 ≤ d) (h1 : d ≤ 18) (hz : SizeOk us size) (u : Int) (tu : Tok) :
    Spec w (hd.heap_1 w.params) 222 [.ref x, .int u tu] [(x, instObj 111 dx), (dx, dictOf es n)] 3 (fun v new => new = [] ∧ ∃ t, v = .bytes (byteArr (octs us size d sg sep (sgn == Str.ofString "leading") (kept d sg u))) t) := by
  have hS' := hS
  obtain ⟨_, _, ⟨tus, hus⟩, _, _, _, _⟩ := hS'
  unfold Spec
  intro dp un gd cn cs a ccd cl outer A₀ base h₀ L m mg mb mean news s Q E B F X N T hk hs hroom hun ret
  refine enterC (binds := [(Str.ofString "shape", .ref x), (Str.ofString "units", .int u tu)]) B F X N T rfl rfl hk hs (by k_is) (by k_is) (show dp < recursionLimit from Nat.lt_of_le_of_lt (Nat.le_add_right _ _) hroom) (BindsTo.of_eq rfl) (locs rfl) ret ?_ rfl rfl rfl (by decide)
  clear B F X N T ret hs
  intro g L' h₁ gs5 dr5 tk os5 F' N' B' X' T' l1
  (try dsimp only)
  k_fold
  rcases hz with rfl | ⟨rfl, hz1, hz2⟩ | ⟨rfl, hz2⟩ | ⟨rfl, hz2⟩
  all_goals k_extra "my steps"
  all_goals (refine Ends.plain (by k_asm) (by k_asm) (by kcj_all) ⟨rfl, _, bytesVal ?_⟩)
  all_goals (simp only [octs]; rfl)
end
section
def ofFigs (b : Int) (fs : List Int) : Int := fs.foldl (fun a f => b * a + f) 0
theorem ofFigs_take {b : Int} {fs : List Int} {i : Nat} {a : Int} (h : fs[i]? = some a) : ofFigs b (fs.take (i + 1)) = b * ofFigs b (fs.take i) + a := by
  unfold ofFigs
  rw [List.take_add_one, h, Option.toList, List.foldl_append]; rfl
theorem fr_acc2 {h₀ h : Heap} {L : Addr} {m m₁ : Str → Option Value} {x1 x2 y : Str} {v1 v2 a : Value} (F : Fr h₀ L h (fun z => if z = x1 then some v1 else if z = x2 then some v2 else m₁ z)) (hy : m₁ y = some a) (hm : ∀ z, z ≠ y → z ≠ x1 → z ≠ x2 → m₁ z = m z) :
    Fr h₀ L h (fun z => if z = x1 then some v1 else if z = x2 then some v2 else if z = y then some a else m z) := by
  have e : (fun z => if z = x1 then some v1 else if z = x2 then some v2 else if z = y then some a else m z) = fun z => if z = x1 then some v1 else if z = x2 then some v2 else m₁ z := by
    funext z
    by_cases h1 : z = x1
    · simp [h1]
    · by_cases h2 : z = x2
      · simp [h1, h2]
      · by_cases h3 : z = y
        · subst h3; simp [h1, h2, hy]
        · simp [h1, h2, h3, hm z h3 h1 h2]
  rw [e]; exact F
theorem joined_figures_spec (w : World) (l : Addr) (vs : List Value) (fs : List Int) (n : Nat) (hI : IntsAre vs fs) (hB : ∀ f ∈ fs, 0 ≤ f ∧ f ≤ 9) (hL : fs.length ≤ 40) :
    Spec w (hd.heap_1 w.params) 229 [.ref l] [(l, listOf vs.toArray n)] 2 (fun v new => new = [] ∧ ∃ t, v = .int (ofFigs 10 fs) t) := by
  unfold Spec
  intro dp un gd cn cs a ccd cl outer A₀ base h₀ L m mg mb mean news s Q E B F X N T hk hs hroom hun ret
  refine enterG (sub := []) (binds := [(Str.ofString "figures", .ref l)]) B F X N T rfl rfl hk (fun _ h => nomatch h) (by k_is) (by k_is) (show dp < recursionLimit from Nat.lt_of_le_of_lt (Nat.le_add_right _ _) hroom) (BindsTo.of_eq rfl) (locs rfl) ret ?_ rfl rfl rfl (by decide)
  have hl := hs _ (List.Mem.head _)
  clear B F X N T ret hs
  intro g L' h₁ gs5 dr5 tk os5 F' N' B' X' T' l1 hg
  have hlist : g.IsList l vs.toArray := ⟨_, hg _ hl (fun h => nomatch h), rfl, n, rfl⟩
  clear hg hl
  (try dsimp only)
  show wpAny _ _ _ _ _ _
  k_fold
  k_extra "my steps"
  rename PairSrcL _ _ _ _ _ _ _ _ _ _ _ _ => hP
  refine (PairSrcL.at hP _ rfl) _ _ _ _ (fun i m₁ news₁ => news₁ = [] ∧ (∃ t, m₁ (Str.ofString "found") = some (.int (ofFigs 10 (fs.take i)) t)) ∧ ∀ z, z ≠ Str.ofString "found" → z ≠ Str.ofString "figure" → z ≠ Str.ofString "at" → m₁ z = List.lookup z [(Str.ofString "figures", Value.ref l)].reverse) ⟨rfl, ⟨_, rfl⟩, fun z h1 _ _ => if_neg h1⟩ ?_ ?_
  · intro i a t v m₁ news₁ s₁ own hs₁ ha hv ⟨hn1, ⟨tf, hf⟩, hm⟩ _ _ F₁ N₁
    obtain ⟨h9, tk9, rfl⟩ := hs₁
    obtain ⟨tv, rfl⟩ := ItemKind.int_is hv
    subst hn1
    have F₂ := fr_acc2 F₁ hf hm
    obtain ⟨hb1, hb2⟩ := hB a (List.mem_of_getElem? ha)
    clear F₁ hP hf hm
    (try dsimp only)
    show wpAny _ _ _ _ _ _
    k_fold
    k_extra "my steps"
    refine LoopStep2.intro (s₁ := ⟨_, _, _, _, _⟩) (news₂ := []) (by assumption) (by assumption) rfl ⟨rfl, ⟨_, (if_pos rfl).trans (congrArg some (intVal (ofFigs_take ha).symm))⟩, fun z h1 h2 h3 => ?_⟩
    simp only [if_neg h1, if_neg h2, if_neg h3]
  · intro h9 tk9 m₁ news₁ F₁ N₁ _ ⟨hn1, ⟨tf, hf⟩, hm⟩
    rw [List.take_length] at hf
    have F₂ : Fr g L' h9 (fun z => if z = Str.ofString "found" then some (Value.int (ofFigs 10 fs) tf) else m₁ z) := by
      have e : (fun z => if z = Str.ofString "found" then some (Value.int (ofFigs 10 fs) tf) else m₁ z) = m₁ := by
        funext z
        by_cases h1 : z = Str.ofString "found"
        · rw [if_pos h1, h1, hf]
        · rw [if_neg h1]
      rw [e]; exact F₁
    clear hP F₁
    (try dsimp only)
    k_extra "my steps"
    exact Ends.plain (by k_asm) (by k_asm) (by kcj_all) ⟨rfl, _, rfl⟩
end
section
def plusRow : Array UInt8 := #[123, 65, 66, 67, 68, 69, 70, 71, 72, 73]
def minusRow : Array UInt8 := #[125, 74, 75, 76, 77, 78, 79, 80, 81, 82]
theorem signed_figure_spec (w : World) (c : Int) (t : Tok) (f : Nat) (neg : Bool) (h0 : 0 ≤ c) (h1 : c < 256)
   (hp : plusRow.contains c.toNat.toUInt8 = !neg) (hm : minusRow.contains c.toNat.toUInt8 = neg) (hf : Builtin.Bytes.find? (if neg then minusRow else plusRow) #[c.toNat.toUInt8] 0 10 = some f) :
    Spec w (hd.heap_1 w.params) 236 [.int c t] [] 1 (fun v new => ∃ D t', v = .ref D ∧ new = [(D, { cls := .type "tuple", data := .seq #[.int (f : Nat) t', .bool neg] })]) := by
  unfold Spec
  intro dp un gd cn cs a ccd cl outer A₀ base h₀ L m mg mb mean news s Q E B F X N T hk hs hroom hun ret
  refine enterC (binds := [(Str.ofString "code", .int c t)]) B F X N T rfl rfl hk hs (by k_is) (by k_is) (show dp < recursionLimit from Nat.lt_of_le_of_lt (Nat.le_add_right _ _) hroom) (BindsTo.of_eq rfl) (locs rfl) ret ?_ rfl rfl rfl (by decide)
  clear B F X N T ret hs
  intro g L' h₁ gs5 dr5 tk os5 F' N' B' X' T' l1
  (try dsimp only)
  show wpAny _ _ _ _ _ _
  k_fold
  cases neg
  · have hf' : Builtin.Bytes.find? #[123, 65, 66, 67, 68, 69, 70, 71, 72, 73] #[c.toNat.toUInt8] 0 (#[123, 65, 66, 67, 68, 69, 70, 71, 72, 73] : Array UInt8).size = some f := hf
    have hp' : (#[123, 65, 66, 67, 68, 69, 70, 71, 72, 73] : Array UInt8).contains c.toNat.toUInt8 = true := hp
    clear hf hp hm
    k_extra "my steps"
    all_goals (first | exact absurd hp' (by rw [‹Array.contains _ _ = false›]; exact Bool.false_ne_true) | exact Ends.intro _ (by k_asm) (by k_asm) (by kcj_all) (List.Subset.refl _) (fun _ h => nomatch h) ⟨_, _, rfl, rfl⟩)
  · have hf' : Builtin.Bytes.find? #[125, 74, 75, 76, 77, 78, 79, 80, 81, 82] #[c.toNat.toUInt8] 0 (#[125, 74, 75, 76, 77, 78, 79, 80, 81, 82] : Array UInt8).size = some f := hf
    have hp' : (#[123, 65, 66, 67, 68, 69, 70, 71, 72, 73] : Array UInt8).contains c.toNat.toUInt8 = false := hp
    have hm' : (#[125, 74, 75, 76, 77, 78, 79, 80, 81, 82] : Array UInt8).contains c.toNat.toUInt8 = true := hm
    clear hf hp hm
    k_extra "my steps"
    all_goals (first | exact absurd hm' (by rw [‹Array.contains _ _ = false›]; exact Bool.false_ne_true) | exact absurd ‹Array.contains _ _ = true› (by rw [hp']; exact Bool.false_ne_true) | exact Ends.intro _ (by k_asm) (by k_asm) (by kcj_all) (List.Subset.refl _) (fun _ h => nomatch h) ⟨_, _, rfl, rfl⟩)
end
section
theorem sign_place_spec (w : World) (x dx : Addr) (es : List DictEntry) (n : Nat) {sgn : Str} {size d : Nat} {sg sep : Bool} (hS : ShapeIs es (Str.ofString "numeric") (Str.ofString "display") size d sg sep sgn) (p : Int) (hp : (if sg = true then (if (sgn == Str.ofString "leading") = true then 0 else (size : Int) - 1) else -1) = p) :
    Spec w (hd.heap_1 w.params) 108 [.ref x] [(x, instObj 111 dx), (dx, dictOf es n)] 1 (fun v new => new = [] ∧ ∃ t, v = .int p t) := by
  subst hp
  obtain ⟨⟨tc, hcat⟩, ⟨tz, hsize⟩, ⟨tu, huse⟩, ⟨ts, hsign⟩, _, _, hsg⟩ := hS
  unfold Spec
  intro dp un gd cn cs a ccd cl outer A₀ base h₀ L m mg mb mean news s Q E B F X N T hk hs hroom hun ret
  refine enterC (binds := [(Str.ofString "self", .ref x)]) B F X N T rfl rfl hk hs (by k_is) (by k_is) (show dp < recursionLimit from Nat.lt_of_le_of_lt (Nat.le_add_right _ _) hroom) (BindsTo.of_eq rfl) (locs rfl) ret ?_ rfl rfl rfl (by decide)
  clear B F X N T ret hs
  intro g L' h₁ gs5 dr5 tk os5 F' N' B' X' T' l1
  (try dsimp only)
  show wpAny _ _ _ _ _ _
  k_fold
  k_extra "my steps"
  all_goals (refine Ends.plain (by k_asm) (by k_asm) (by kcj_all) ⟨rfl, _, intVal ?_⟩)
  all_goals (simp only [*, if_true, if_false, Bool.false_eq_true]; done)
end
theorem wd9 : True := by
  k_with "mine call ref" => ((k_here; (with_reducible show wpAny _ _ (call (Value.ref 108) _) _ _ _); k_dflt (refine' Spec.use0 (sign_place_spec _ _ _ _ _ ?c0q99 _ ?c1q99) ?k1 ?k2 ?k3 ?k4 ?k5 ?kK ?ks ?kd ?ku ?_; (case c0q99 => assumption); (case c1q99 => assumption); k_extra "my sides"; intro t' h' tk' F' N'; (try k_sweep); (try dsimp only))))
  k_with "mine call ref" => ((k_here; (with_reducible show wpAny _ _ (call (Value.ref 229) _) _ _ _); k_dflt (refine' Spec.use0 (joined_figures_spec _ _ _ _ _ ?c0q100 ?c1q100 ?c2q100) ?k1 ?k2 ?k3 ?k4 ?k5 ?kK ?ks ?kd ?ku ?_; (case c0q100 => assumption); (case c1q100 => (k_extra "my figs")); (case c2q100 => (k_extra "my size")); k_extra "my sides"; intro t' h' tk' F' N'; (try k_sweep); (try dsimp only))))
  k_with "mine call ref" => ((k_here; (with_reducible show wpAny _ _ (call (Value.ref 236) _) _ _ _); k_dflt (refine' Spec.use1 (signed_figure_spec _ _ _ _ _ ?c0q101 ?c1q101 ?c2q101 ?c3q101 ?c4q101) ?k1 ?k2 ?k3 ?k4 ?k5 ?kK ?ks ?kd ?ku ?_; (case c0q101 => (k_extra "my code")); (case c1q101 => (k_extra "my code")); (case c2q101 => (k_extra "my code")); (case c3q101 => (k_extra "my code")); (case c4q101 => (k_extra "my code")); k_extra "my sides"; intro D' t' h' tk' F' N' hne'; (try dsimp only [OffN, OffP] at hne'); (try k_sweep); (try dsimp only))))
  trivial
section
theorem wd10 : True := by
  k_with "my figs" => (assumption)
  k_with "mine eval ListComp" => ((k_here; k_dflt (refine ListComp_bytes (F₀ := by k_asm) (by with_unfolding_all rfl) (by decide) (by rfl) (by decide) (by rfl) ?_ (fun _ => rfl))))
  trivial
theorem back48 (fs : List Int) : (fs.map fun k => 48 + k).map (fun k => k - 48) = fs := by
  rw [List.map_map]
  refine (List.map_congr_left (g := id) fun n _ => ?_).trans (List.map_id fs)
  show 48 + n - 48 = n
  (first | lia | omega)
theorem display_units_plain (w : World) (x dx : Addr) (es : List DictEntry) (n : Nat) {sgn : Str} {size d : Nat} {sep : Bool} (hS : ShapeIs es (Str.ofString "numeric") (Str.ofString "display") size d false sep sgn) (hno : getL "sign_place" es = some none) (fs : List Int) (hB : ∀ f ∈ fs, 0 ≤ f ∧ f ≤ 9) (hL : fs.length ≤ 20) (tb : Tok) :
    Spec w (hd.heap_1 w.params) 241 [.ref x, .bytes (byteArr (fs.map fun k => 48 + k)) tb] [(x, instObj 111 dx), (dx, dictOf es n)] 4 (fun v new => new = [] ∧ ∃ t, v = .int (ofFigs 10 fs) t) := by
  have hS' := hS
  obtain ⟨⟨tc, hcat⟩, ⟨tz, hsize⟩, ⟨tu, huse⟩, ⟨ts, hsign⟩, hsep, _, hsg⟩ := hS'
  have hpl : (if false = true then (if (sgn == Str.ofString "leading") = true then 0 else (size : Int) - 1) else -1) = -1 := if_neg Bool.false_ne_true
  unfold Spec
  intro dp un gd cn cs a ccd cl outer A₀ base h₀ L m mg mb mean news s Q E B F X N T hk hs hroom hun ret
  refine enterC (binds := [(Str.ofString "shape", .ref x), (Str.ofString "octets", .bytes (byteArr (fs.map fun k => 48 + k)) tb)]) B F X N T rfl rfl hk hs (by k_is) (by k_is) (show dp < recursionLimit from Nat.lt_of_le_of_lt (Nat.le_add_right _ _) hroom) (BindsTo.of_eq rfl) (locs rfl) ret ?_ rfl rfl rfl (by decide)
  clear B F X N T ret hs
  intro g L' h₁ gs5 dr5 tk os5 F' N' B' X' T' l1
  (try dsimp only)
  show wpAny _ _ _ _ _ _
  k_fold
  k_extra "my steps"
  rename Fr _ _ _ _ => hF
  rename News _ _ _ _ => hN
  refine ByteSrc.intro rfl hF hN (bInts_byteArr (all48 hB)) (by rw [List.length_map]; (first | lia | omega)) (fun k => k - 48) ?_ ?_
  · intro s₂ hs₂ k t I oI C oC D m₂ ys h tk E' hk hk2 hC hx F₂ N₂ off ne hMk
    obtain ⟨h9, rfl⟩ := hs₂
    clear hF hN
    simp only [LCg.Off3, and_true] at off
    (try dsimp only)
    show wpAny _ _ _ _ _ _
    k_fold
    k_extra "my steps"
  · intro s₂ hs₂ ys hy D h tk F₂ N₂ off
    obtain ⟨h9, rfl⟩ := hs₂
    rw [back48] at hy
    clear hF hN
    (try dsimp only)
    (try k_fold)
    k_extra "my steps"
    exact Ends.plain (by k_asm) (by k_asm) (by kcj_all) ⟨rfl, _, rfl⟩
end
theorem wd11 : True := by
  k_with_none
  k_with "my fold" => (((first | (with_reducible show wpAny _ _ (exec (PySem.Stmt.Assign _ _ _) _) _ _ _) | (with_reducible show wpAny _ _ (exec (PySem.Stmt.Return _ _) _) _ _ _) | (with_reducible show wpAny _ _ (exec (PySem.Stmt.If _ _ _ _) _) _ _ _) | (with_reducible show wpAny _ _ (exec (PySem.Stmt.Expr _ _) _) _ _ _) | (with_reducible show wpAny _ _ (exec (PySem.Stmt.AugAssign _ _ _ _) _) _ _ _) | (with_reducible show wpAny _ _ (eval (PySem.Expr.BinOp _ _ _ _) _) _ _ _) | (with_reducible show wpAny _ _ (eval (PySem.Expr.Call _ _ _ _) _) _ _ _)); (fail_if_success (fail_if_success k_fold)); refine (let qk := _; keepQ qk ?_)))
  k_with "my get" => (assumption)
  k_with "mine call type:range" => ((k_here; (rename Fr _ _ _ _ => F'); (rename News _ _ _ _ => N'); (with_unfolding_all refine range1_rows F' N' ?_; intro _ _ _ _ _ _ _ _ _)))
  k_with "my steps" => (repeat' (first | ((fail_if_success (fail_if_success k_unfold)); (try dsimp only); refine (?_ : wpAny _ _ _ _ _ _)) | (k_unfold; (try dsimp only)) | k_extra "my fold" | ((fail_if_success (with_reducible show wpAny _ _ (pyIter _) (fun it s₂ => LoopAtV _ _ _ _ _ _ _ _ _ it s₂) _ _)); (fail_if_success (with_reducible show wpAny _ _ (pyIter _) (fun it s₂ => PairAt3 _ _ _ _ _ _ _ _ _ _ it s₂) _ _)); (fail_if_success (with_reducible show LoopStep3 _ _ _ _ _ _ _ _ _ _)); (fail_if_success (with_reducible show InvEndN _ _ _ _ _ _ _)); (fail_if_success (with_reducible show Ends _ _ _ _ _ _)); first | walk1 | (dsimp only; walk1) | (dsimp only; k_unfold; (try dsimp only)))))
  k_with "my plain steps" => (repeat' (first | ((fail_if_success (fail_if_success k_unfold)); (try dsimp only); refine (?_ : wpAny _ _ _ _ _ _)) | (k_unfold; (try dsimp only)) | ((fail_if_success (with_reducible show wpAny _ _ (pyIter _) (fun it s₂ => LoopAtV _ _ _ _ _ _ _ _ _ it s₂) _ _)); (fail_if_success (with_reducible show wpAny _ _ (pyIter _) (fun it s₂ => PairAt3 _ _ _ _ _ _ _ _ _ _ it s₂) _ _)); (fail_if_success (with_reducible show LoopStep3 _ _ _ _ _ _ _ _ _ _)); (fail_if_success (with_reducible show InvEndN _ _ _ _ _ _ _)); (fail_if_success (with_reducible show Ends _ _ _ _ _ _)); first | walk1 | (dsimp only; walk1) | (dsimp only; k_unfold; (try dsimp only)))))
  k_with "my bytes" => (first | exact all48 (by assumption) | (refine all_cons (by decide) ?_; k_extra "my bytes") | (refine all_snoc (by decide) ?_; k_extra "my bytes"))
  k_with "my size" => (first | (first | lia | omega) | ((try simp only [List.length_map, List.length_cons, List.length_append, List.length_nil, List.length_set, List.length_reverse, lits_length, figs_length, stepKs_length]); (first | lia | omega)))
  k_with "mine call type:bytes" => ((k_here; (with_reducible show wpAny _ _ (call (Value.type "bytes") [Value.ref _]) _ _ _); k_dflt (refine' bytesOf_K ?Fq111 ?Nq111 ?mq111 ?iq111 ?rq111 ?zq111 ?hq111 ?_; (case Fq111 => k_asm); (case Nq111 => k_asm); (case mq111 => k_mem); (case iq111 => assumption); (case rq111 => k_extra "my bytes"); (case zq111 => k_extra "my size"); (case hq111 => exact rfl); k_whole); intro h' t' k' F' N'; (try k_sweep)))
  k_with "my bytes" => ((refine all_set (u8_in _) ?_; k_extra "my bytes"))
  k_with "my byte at" => ((refine fig_at (by assumption) ?_; k_extra "my size"))
  k_with "mine subscriptTail" => ((k_here; (with_reducible show wpAny _ _ (subscriptTail _ _ (Value.bytes _ _) (Value.int _ _)) _ _ _); k_dflt (refine' bytesItem_K ?aq114 ?bq114 ?_ ?hsq114 ?htq114; (case aq114 => k_extra "my byte at"); (case bq114 => decide); (case hsq114 => with_unfolding_all rfl); (case htq114 => intro _; with_unfolding_all rfl))))
  k_with "my index" => (first | (first | lia | omega) | decide | assumption)
  k_with "mine compareOp In" => ((k_here; (with_reducible show wpAny _ _ (compareOp CmpOp.In (Value.int _ _) (Value.bytes _ _)) _ _ _); k_dflt (refine' in_bytes ?aq116 ?bq116 ?_; (case aq116 => (first | lia | omega)); (case bq116 => (first | lia | omega)))))
  k_with "mine getMethod" => ((k_here; (with_reducible show wpAny _ _ (getMethod (Value.bytes _ _) "index" _) _ _ _); refine index_method ?_))
  k_with "mine call builtin:bytes.index" => ((k_here; (with_reducible show wpAny _ _ (call (Value.builtin "bytes.index") [Value.bytes _ _, Value.int _ _]) _ _ _); k_dflt (refine' bytes_index _ ?aq118 ?bq118 ?cq118 ?dq118 ?_; (case aq118 => (first | lia | omega)); (case bq118 => (first | lia | omega)); (case cq118 => decide); (case dq118 => assumption)); intro _ _; (try dsimp only)))
  k_with "mine subscriptTail" => ((k_here; (with_reducible show wpAny _ _ (subscriptTail _ _ (Value.bytes (byteArr _) _) (Value.int _ _)) _ _ _); k_dflt (refine' bytesInt_K ?aq119 ?bq119 ?rq119 ?zq119 ?_ ?hsq119 ?htq119; (case aq119 => (first | lia | omega)); (case bq119 => assumption); (case rq119 => first | assumption | k_extra "my bytes"); (case zq119 => k_extra "my size"); (case hsq119 => with_unfolding_all rfl); (case htq119 => intro _; with_unfolding_all rfl)); intro _ _; (try dsimp only)))
  k_with "my pick" => ((with_reducible first | exact kmk_upto (by l_ints) (by (first | lia | omega)) | exact kmk_from (by l_ints) (by (first | lia | omega)) | exact kmk_upto_neg (by l_ints) (by (first | lia | omega)) | exact kmk_from_neg (by l_ints) (by (first | lia | omega))))
  k_with "mine subscriptTail Name Slice ref ref" => ((k_here; (with_reducible show wpAny _ _ (subscriptTail _ (PySem.Expr.Slice _ _ none _) (Value.ref _) (Value.ref _)) _ _ _); k_dflt (refine' kmk_slice_ints ?Fq121 ?Nq121 ?lq121 ?pq121 ?qq121 ?iq121 ?mq121 ?cq121 ?_ ?sq121 ?tq121 ?zq121; (case Fq121 => k_asm); (case Nq121 => k_asm); (case lq121 => kmk_list); (case pq121 => kmk_part); (case qq121 => kmk_part); (case iq121 => l_ints); (case mq121 => k_extra "my pick"); (case cq121 => kmk_len); (case sq121 => with_unfolding_all rfl); (case tq121 => kmk_pure); (case zq121 => kmk_size)); intro D' ws' h' F' N' l1 hI' hC' hL'; (try k_lt l1); (try k_sweep)))
  k_with "my ints" => (first | l_ints | exact IntsAre.cons _ _ IntsAre.nil | exact IntsAre.cons _ _ (IntsAre.cons _ _ IntsAre.nil))
  k_with "mine binaryOp Add ref ref" => ((k_here; (with_reducible show wpAny _ _ (binaryOp _ (Value.ref _) (Value.ref _)) _ _ _); k_dflt (refine' kmk_add_ints ?Fq123 ?Nq123 ?aq123 ?bq123 ?iq123 ?jq123 ?_ ?zq123; (case Fq123 => k_asm); (case Nq123 => k_asm); (case aq123 => kmk_list); (case bq123 => kmk_list); (case iq123 => k_extra "my ints"); (case jq123 => k_extra "my ints"); (case zq123 => first | ((simp only [sizeLine_eq]); k_extra "my size") | kmk_sum)); intro D' ws' h' F' N' l1 hI'; (try k_lt l1); (try k_sweep)))
  k_with "mine call builtin:len" => ((k_here; (with_reducible show wpAny _ _ (call (Value.builtin "len") [Value.bytes (byteArr _) _]) _ _ _); k_dflt (refine' len_byteArr ?zq124 ?_; (case zq124 => k_extra "my size")); intro _ _; (try dsimp only)))
  k_with "mine call builtin:ord" => ((k_here; (with_reducible show wpAny _ _ (call (Value.builtin "ord") [Value.str _ _]) _ _ _); refine ord_of_char ?_; (try dsimp only)))
  k_with "my text slice" => (((with_reducible rename Fr _ _ _ _ => F'); (with_reducible rename News _ _ _ _ => N'); first | ((with_reducible show wpAny _ _ (subscriptTail _ (Expr.Slice none (some _) none _) _ _) _ _ _); (refine slice_strN_ns_len (hsz := ?hszq126) (s := ⟨_, _, _, _, _⟩) F' N' ?_); (case hszq126 => rw [sizeLine_eq]; (first | lia | omega))) | ((with_reducible show wpAny _ _ (subscriptTail _ (Expr.Slice (some _) none none _) _ _) _ _ _); (refine slice_strN_sn_len (hsz := ?hszq126) (s := ⟨_, _, _, _, _⟩) F' N' ?_); (case hszq126 => rw [sizeLine_eq]; (first | lia | omega)))))
  k_with "my units" => (((try simp only [units_in1, units_deeper, Around.mark_units]); (try dsimp only [ktrTop]); (first | lia | omega)))
  k_with "my tail" => ((first | assumption | (refine' And.right ?_; first | assumption | (refine' And.right ?_; first | assumption | (refine' And.right ?_; first | assumption | (refine' And.right ?_; first | assumption | (refine' And.right ?_; first | assumption | (refine' And.right ?_; first | assumption | (refine' And.right ?_; first | assumption | (refine' And.right ?_; first | assumption | (refine' And.right ?_; assumption)))))))))))
  k_with "my conj" => (first | k_extra "my tail" | (refine' And.left ?_; k_extra "my tail") | (refine' And.left ?_; refine' And.left ?_; k_extra "my tail") | (refine' And.right ?_; refine' And.left ?_; k_extra "my tail"))
  k_with "my ne" => ((refine neN ?_; (try dsimp only); first | (refine' Nat.ne_of_lt ?_; k_extra "my conj") | (refine' Nat.ne_of_gt ?_; k_extra "my conj") | k_extra "my conj" | (refine' Ne.symm ?_; k_extra "my conj") | (first | lia | omega)))
  k_with "my sides" => (((case k1 => k_asm); (case k2 => k_asm); (case k3 => k_asm); (case k4 => k_asm); (case k5 => k_asm); (case kK => first | assumption | exact rfl); (case ks => kcj_all); (case kd => first | ((try simp only [depth_mark, depth_under_make, depth_under_kw, depth_in1, depth_deeper]); (try dsimp only [ktrTop]); first | (refine' room3 ?hhq131 ?llq131; (case hhq131 => assumption); (case llq131 => exact Nat.le_of_ble_eq_true rfl)) | (first | lia | omega)) | (with_unfolding_all exact Nat.le_of_ble_eq_true rfl)); (case ku => first | ((try simp only [units_in1, units_deeper, Around.mark_units]); (try dsimp only [ktrTop]); first | (refine' room3 ?hhq131 ?llq131; (case hhq131 => assumption); (case llq131 => exact Nat.le_of_ble_eq_true rfl)) | (first | lia | omega)) | (with_unfolding_all exact Nat.le_of_ble_eq_true rfl))))
  k_with "mine call ref" => ((k_here; (with_reducible show wpAny _ _ (call (Value.ref 108) _) _ _ _); k_dflt (refine' Spec.use0 (sign_place_spec _ _ _ _ _ ?c0q132 _ ?c1q132) ?k1 ?k2 ?k3 ?k4 ?k5 ?kK ?ks ?kd ?ku ?_; (case c0q132 => assumption); (case c1q132 => assumption); k_extra "my sides"; intro t' h' tk' F' N'; (try k_sweep); (try dsimp only))))
  k_with "mine call ref" => ((k_here; (with_reducible show wpAny _ _ (call (Value.ref 229) _) _ _ _); k_dflt (refine' Spec.use0 (joined_figures_spec _ _ _ _ _ ?c0q133 ?c1q133 ?c2q133) ?k1 ?k2 ?k3 ?k4 ?k5 ?kK ?ks ?kd ?ku ?_; (case c0q133 => assumption); (case c1q133 => (k_extra "my figs")); (case c2q133 => (k_extra "my size")); k_extra "my sides"; intro t' h' tk' F' N'; (try k_sweep); (try dsimp only))))
  k_with "mine call ref" => ((k_here; (with_reducible show wpAny _ _ (call (Value.ref 236) _) _ _ _); k_dflt (refine' Spec.use1 (signed_figure_spec _ _ _ _ _ ?c0q134 ?c1q134 ?c2q134 ?c3q134 ?c4q134) ?k1 ?k2 ?k3 ?k4 ?k5 ?kK ?ks ?kd ?ku ?_; (case c0q134 => (k_extra "my code")); (case c1q134 => (k_extra "my code")); (case c2q134 => (k_extra "my code")); (case c3q134 => (k_extra "my code")); (case c4q134 => (k_extra "my code")); k_extra "my sides"; intro D' t' h' tk' F' N' hne'; (try dsimp only [OffN, OffP] at hne'); (try k_sweep); (try dsimp only))))
  trivial
section
theorem wd12 : True := by
  k_with "my figs" => (assumption)
  k_with "mine eval ListComp" => ((k_here; k_dflt (refine ListComp_bytes (F₀ := by k_asm) (by with_unfolding_all rfl) (by decide) (by rfl) (by decide) (by rfl) ?_ (fun _ => rfl))))
  trivial
theorem display_units_sep (w : World) (x dx : Addr) (es : List DictEntry) (n : Nat) {sgn : Str} {size d : Nat} (hS : ShapeIs es (Str.ofString "numeric") (Str.ofString "display") size d true true sgn) (hno : getL "sign_place" es = some none) (ns fs : List Int) (p c : Int) (neg : Bool) (hfs : List.take p.toNat (ns.map (fun k => k - 48)) ++ List.drop (p + 1).toNat (ns.map (fun k => k - 48)) = fs) (hB : ∀ f ∈ List.take p.toNat (ns.map (fun k => k - 48)) ++ List.drop (p + 1).toNat (ns.map (fun k => k - 48)), 0 ≤ f ∧ f ≤ 9) (hr : ∀ n ∈ ns, 0 ≤ n ∧ n < 256) (hL : ns.length ≤ 20) (tb : Tok)
    (hpl : (if true = true then (if (sgn == Str.ofString "leading") = true then 0 else (size : Int) - 1) else -1) = p) (hp : 0 ≤ p) (hp1 : p < ns.length) (hc : ns[p.toNat]? = some c) (hneg : c = if neg then 45 else 43) :
    Spec w (hd.heap_1 w.params) 241 [.ref x, .bytes (byteArr ns) tb] [(x, instObj 111 dx), (dx, dictOf es n)] 4 (fun v new => new = [] ∧ ∃ t, v = .int (if neg then 0 - ofFigs 10 fs else ofFigs 10 fs) t) := by
  have hS' := hS
  obtain ⟨⟨tc, hcat⟩, ⟨tz, hsize⟩, ⟨tu, huse⟩, ⟨ts, hsign⟩, hsep, _, hsg⟩ := hS'
  have hlen : (ns.map (fun k => k - 48)).length ≤ 20 := by rw [List.length_map]; exact hL
  unfold Spec
  intro dp un gd cn cs a ccd cl outer A₀ base h₀ L m mg mb mean news s Q E B F X N T hk hs hroom hun ret
  refine enterC (binds := [(Str.ofString "shape", .ref x), (Str.ofString "octets", .bytes (byteArr ns) tb)]) B F X N T rfl rfl hk hs (by k_is) (by k_is) (show dp < recursionLimit from Nat.lt_of_le_of_lt (Nat.le_add_right _ _) hroom) (BindsTo.of_eq rfl) (locs rfl) ret ?_ rfl rfl rfl (by decide)
  clear B F X N T ret hs
  intro g L' h₁ gs5 dr5 tk os5 F' N' B' X' T' l1
  (try dsimp only)
  show wpAny _ _ _ _ _ _
  k_fold
  k_extra "my steps"
  rename Fr _ _ _ _ => hF
  rename News _ _ _ _ => hN
  refine ByteSrc.intro rfl hF hN (bInts_byteArr hr) (by (first | lia | omega)) (fun k => k - 48) ?_ ?_
  · intro s₂ hs₂ k t I oI C oC D m₂ ys h tk E' hk hk2 hC hx F₂ N₂ off ne hMk
    obtain ⟨h9, rfl⟩ := hs₂
    clear hF hN
    simp only [LCg.Off3, and_true] at off
    (try dsimp only)
    show wpAny _ _ _ _ _ _
    k_fold
    k_extra "my steps"
  · intro s₂ hs₂ ys hy D h tk F₂ N₂ off
    obtain ⟨h9, rfl⟩ := hs₂
    have hlen2 : (ns.map (fun k => k - 48)).length = ns.length := List.length_map ..
    have hysl : ys.length = (ns.map (fun k => k - 48)).length := hy.length
    clear hF hN
    (try dsimp only)
    (try k_fold)
    subst hfs
    cases neg
    · have hc2 : c = 43 := hneg
      subst hc2; clear hneg
      k_extra "my steps"
      exact Ends.plain (by k_asm) (by k_asm) (by kcj_all) ⟨rfl, _, rfl⟩
    · have hc2 : c = 45 := hneg
      subst hc2; clear hneg
      k_extra "my steps"
      exact Ends.plain (by k_asm) (by k_asm) (by kcj_all) ⟨rfl, _, rfl⟩
end
theorem wd13 : True := by
  k_with_none
  k_with "my fold" => (((first | (with_reducible show wpAny _ _ (exec (PySem.Stmt.Assign _ _ _) _) _ _ _) | (with_reducible show wpAny _ _ (exec (PySem.Stmt.Return _ _) _) _ _ _) | (with_reducible show wpAny _ _ (exec (PySem.Stmt.If _ _ _ _) _) _ _ _) | (with_reducible show wpAny _ _ (exec (PySem.Stmt.Expr _ _) _) _ _ _) | (with_reducible show wpAny _ _ (exec (PySem.Stmt.AugAssign _ _ _ _) _) _ _ _) | (with_reducible show wpAny _ _ (eval (PySem.Expr.BinOp _ _ _ _) _) _ _ _) | (with_reducible show wpAny _ _ (eval (PySem.Expr.Call _ _ _ _) _) _ _ _)); (fail_if_success (fail_if_success k_fold)); refine (let qk := _; keepQ qk ?_)))
  k_with "my get" => (assumption)
  k_with "mine call type:range" => ((k_here; (rename Fr _ _ _ _ => F'); (rename News _ _ _ _ => N'); (with_unfolding_all refine range1_rows F' N' ?_; intro _ _ _ _ _ _ _ _ _)))
  k_with "my steps" => (repeat' (first | ((fail_if_success (fail_if_success k_unfold)); (try dsimp only); refine (?_ : wpAny _ _ _ _ _ _)) | (k_unfold; (try dsimp only)) | k_extra "my fold" | ((fail_if_success (with_reducible show wpAny _ _ (pyIter _) (fun it s₂ => LoopAtV _ _ _ _ _ _ _ _ _ it s₂) _ _)); (fail_if_success (with_reducible show wpAny _ _ (pyIter _) (fun it s₂ => PairAt3 _ _ _ _ _ _ _ _ _ _ it s₂) _ _)); (fail_if_success (with_reducible show LoopStep3 _ _ _ _ _ _ _ _ _ _)); (fail_if_success (with_reducible show InvEndN _ _ _ _ _ _ _)); (fail_if_success (with_reducible show Ends _ _ _ _ _ _)); first | walk1 | (dsimp only; walk1) | (dsimp only; k_unfold; (try dsimp only)))))
  k_with "my plain steps" => (repeat' (first | ((fail_if_success (fail_if_success k_unfold)); (try dsimp only); refine (?_ : wpAny _ _ _ _ _ _)) | (k_unfold; (try dsimp only)) | ((fail_if_success (with_reducible show wpAny _ _ (pyIter _) (fun it s₂ => LoopAtV _ _ _ _ _ _ _ _ _ it s₂) _ _)); (fail_if_success (with_reducible show wpAny _ _ (pyIter _) (fun it s₂ => PairAt3 _ _ _ _ _ _ _ _ _ _ it s₂) _ _)); (fail_if_success (with_reducible show LoopStep3 _ _ _ _ _ _ _ _ _ _)); (fail_if_success (with_reducible show InvEndN _ _ _ _ _ _ _)); (fail_if_success (with_reducible show Ends _ _ _ _ _ _)); first | walk1 | (dsimp only; walk1) | (dsimp only; k_unfold; (try dsimp only)))))
  k_with "my bytes" => (first | exact all48 (by assumption) | (refine all_cons (by decide) ?_; k_extra "my bytes") | (refine all_snoc (by decide) ?_; k_extra "my bytes"))
  k_with "my size" => (first | (first | lia | omega) | ((try simp only [List.length_map, List.length_cons, List.length_append, List.length_nil, List.length_set, List.length_reverse, lits_length, figs_length, stepKs_length]); (first | lia | omega)))
  k_with "mine call type:bytes" => ((k_here; (with_reducible show wpAny _ _ (call (Value.type "bytes") [Value.ref _]) _ _ _); k_dflt (refine' bytesOf_K ?Fq144 ?Nq144 ?mq144 ?iq144 ?rq144 ?zq144 ?hq144 ?_; (case Fq144 => k_asm); (case Nq144 => k_asm); (case mq144 => k_mem); (case iq144 => assumption); (case rq144 => k_extra "my bytes"); (case zq144 => k_extra "my size"); (case hq144 => exact rfl); k_whole); intro h' t' k' F' N'; (try k_sweep)))
  k_with "my bytes" => ((refine all_set (u8_in _) ?_; k_extra "my bytes"))
  k_with "my byte at" => ((refine fig_at (by assumption) ?_; k_extra "my size"))
  k_with "mine subscriptTail" => ((k_here; (with_reducible show wpAny _ _ (subscriptTail _ _ (Value.bytes _ _) (Value.int _ _)) _ _ _); k_dflt (refine' bytesItem_K ?aq147 ?bq147 ?_ ?hsq147 ?htq147; (case aq147 => k_extra "my byte at"); (case bq147 => decide); (case hsq147 => with_unfolding_all rfl); (case htq147 => intro _; with_unfolding_all rfl))))
  k_with "my index" => (first | (first | lia | omega) | decide | assumption)
  k_with "mine compareOp In" => ((k_here; (with_reducible show wpAny _ _ (compareOp CmpOp.In (Value.int _ _) (Value.bytes _ _)) _ _ _); k_dflt (refine' in_bytes ?aq149 ?bq149 ?_; (case aq149 => (first | lia | omega)); (case bq149 => (first | lia | omega)))))
  k_with "mine getMethod" => ((k_here; (with_reducible show wpAny _ _ (getMethod (Value.bytes _ _) "index" _) _ _ _); refine index_method ?_))
  k_with "mine call builtin:bytes.index" => ((k_here; (with_reducible show wpAny _ _ (call (Value.builtin "bytes.index") [Value.bytes _ _, Value.int _ _]) _ _ _); k_dflt (refine' bytes_index _ ?aq151 ?bq151 ?cq151 ?dq151 ?_; (case aq151 => (first | lia | omega)); (case bq151 => (first | lia | omega)); (case cq151 => decide); (case dq151 => assumption)); intro _ _; (try dsimp only)))
  k_with "mine subscriptTail" => ((k_here; (with_reducible show wpAny _ _ (subscriptTail _ _ (Value.bytes (byteArr _) _) (Value.int _ _)) _ _ _); k_dflt (refine' bytesInt_K ?aq152 ?bq152 ?rq152 ?zq152 ?_ ?hsq152 ?htq152; (case aq152 => (first | lia | omega)); (case bq152 => assumption); (case rq152 => first | assumption | k_extra "my bytes"); (case zq152 => k_extra "my size"); (case hsq152 => with_unfolding_all rfl); (case htq152 => intro _; with_unfolding_all rfl)); intro _ _; (try dsimp only)))
  k_with "my pick" => ((with_reducible first | exact kmk_upto (by l_ints) (by (first | lia | omega)) | exact kmk_from (by l_ints) (by (first | lia | omega)) | exact kmk_upto_neg (by l_ints) (by (first | lia | omega)) | exact kmk_from_neg (by l_ints) (by (first | lia | omega))))
  k_with "mine subscriptTail Name Slice ref ref" => ((k_here; (with_reducible show wpAny _ _ (subscriptTail _ (PySem.Expr.Slice _ _ none _) (Value.ref _) (Value.ref _)) _ _ _); k_dflt (refine' kmk_slice_ints ?Fq154 ?Nq154 ?lq154 ?pq154 ?qq154 ?iq154 ?mq154 ?cq154 ?_ ?sq154 ?tq154 ?zq154; (case Fq154 => k_asm); (case Nq154 => k_asm); (case lq154 => kmk_list); (case pq154 => kmk_part); (case qq154 => kmk_part); (case iq154 => l_ints); (case mq154 => k_extra "my pick"); (case cq154 => kmk_len); (case sq154 => with_unfolding_all rfl); (case tq154 => kmk_pure); (case zq154 => kmk_size)); intro D' ws' h' F' N' l1 hI' hC' hL'; (try k_lt l1); (try k_sweep)))
  k_with "my ints" => (first | l_ints | exact IntsAre.cons _ _ IntsAre.nil | exact IntsAre.cons _ _ (IntsAre.cons _ _ IntsAre.nil))
  k_with "mine binaryOp Add ref ref" => ((k_here; (with_reducible show wpAny _ _ (binaryOp _ (Value.ref _) (Value.ref _)) _ _ _); k_dflt (refine' kmk_add_ints ?Fq156 ?Nq156 ?aq156 ?bq156 ?iq156 ?jq156 ?_ ?zq156; (case Fq156 => k_asm); (case Nq156 => k_asm); (case aq156 => kmk_list); (case bq156 => kmk_list); (case iq156 => k_extra "my ints"); (case jq156 => k_extra "my ints"); (case zq156 => first | ((simp only [sizeLine_eq]); k_extra "my size") | kmk_sum)); intro D' ws' h' F' N' l1 hI'; (try k_lt l1); (try k_sweep)))
  k_with "mine call builtin:len" => ((k_here; (with_reducible show wpAny _ _ (call (Value.builtin "len") [Value.bytes (byteArr _) _]) _ _ _); k_dflt (refine' len_byteArr ?zq157 ?_; (case zq157 => k_extra "my size")); intro _ _; (try dsimp only)))
  k_with "mine call builtin:ord" => ((k_here; (with_reducible show wpAny _ _ (call (Value.builtin "ord") [Value.str _ _]) _ _ _); refine ord_of_char ?_; (try dsimp only)))
  k_with "my text slice" => (((with_reducible rename Fr _ _ _ _ => F'); (with_reducible rename News _ _ _ _ => N'); first | ((with_reducible show wpAny _ _ (subscriptTail _ (Expr.Slice none (some _) none _) _ _) _ _ _); (refine slice_strN_ns_len (hsz := ?hszq159) (s := ⟨_, _, _, _, _⟩) F' N' ?_); (case hszq159 => rw [sizeLine_eq]; (first | lia | omega))) | ((with_reducible show wpAny _ _ (subscriptTail _ (Expr.Slice (some _) none none _) _ _) _ _ _); (refine slice_strN_sn_len (hsz := ?hszq159) (s := ⟨_, _, _, _, _⟩) F' N' ?_); (case hszq159 => rw [sizeLine_eq]; (first | lia | omega)))))
  k_with "my units" => (((try simp only [units_in1, units_deeper, Around.mark_units]); (try dsimp only [ktrTop]); (first | lia | omega)))
  k_with "my tail" => ((first | assumption | (refine' And.right ?_; first | assumption | (refine' And.right ?_; first | assumption | (refine' And.right ?_; first | assumption | (refine' And.right ?_; first | assumption | (refine' And.right ?_; first | assumption | (refine' And.right ?_; first | assumption | (refine' And.right ?_; first | assumption | (refine' And.right ?_; first | assumption | (refine' And.right ?_; assumption)))))))))))
  k_with "my conj" => (first | k_extra "my tail" | (refine' And.left ?_; k_extra "my tail") | (refine' And.left ?_; refine' And.left ?_; k_extra "my tail") | (refine' And.right ?_; refine' And.left ?_; k_extra "my tail"))
  k_with "my ne" => ((refine neN ?_; (try dsimp only); first | (refine' Nat.ne_of_lt ?_; k_extra "my conj") | (refine' Nat.ne_of_gt ?_; k_extra "my conj") | k_extra "my conj" | (refine' Ne.symm ?_; k_extra "my conj") | (first | lia | omega)))
  k_with "my sides" => (((case k1 => k_asm); (case k2 => k_asm); (case k3 => k_asm); (case k4 => k_asm); (case k5 => k_asm); (case kK => first | assumption | exact rfl); (case ks => kcj_all); (case kd => first | ((try simp only [depth_mark, depth_under_make, depth_under_kw, depth_in1, depth_deeper]); (try dsimp only [ktrTop]); first | (refine' room3 ?hhq164 ?llq164; (case hhq164 => assumption); (case llq164 => exact Nat.le_of_ble_eq_true rfl)) | (first | lia | omega)) | (with_unfolding_all exact Nat.le_of_ble_eq_true rfl)); (case ku => first | ((try simp only [units_in1, units_deeper, Around.mark_units]); (try dsimp only [ktrTop]); first | (refine' room3 ?hhq164 ?llq164; (case hhq164 => assumption); (case llq164 => exact Nat.le_of_ble_eq_true rfl)) | (first | lia | omega)) | (with_unfolding_all exact Nat.le_of_ble_eq_true rfl))))
  k_with "mine call ref" => ((k_here; (with_reducible show wpAny _ _ (call (Value.ref 108) _) _ _ _); k_dflt (refine' Spec.use0 (sign_place_spec _ _ _ _ _ ?c0q165 _ ?c1q165) ?k1 ?k2 ?k3 ?k4 ?k5 ?kK ?ks ?kd ?ku ?_; (case c0q165 => assumption); (case c1q165 => assumption); k_extra "my sides"; intro t' h' tk' F' N'; (try k_sweep); (try dsimp only))))
  k_with "mine call ref" => ((k_here; (with_reducible show wpAny _ _ (call (Value.ref 229) _) _ _ _); k_dflt (refine' Spec.use0 (joined_figures_spec _ _ _ _ _ ?c0q166 ?c1q166 ?c2q166) ?k1 ?k2 ?k3 ?k4 ?k5 ?kK ?ks ?kd ?ku ?_; (case c0q166 => assumption); (case c1q166 => (k_extra "my figs")); (case c2q166 => (k_extra "my size")); k_extra "my sides"; intro t' h' tk' F' N'; (try k_sweep); (try dsimp only))))
  k_with "mine call ref" => ((k_here; (with_reducible show wpAny _ _ (call (Value.ref 236) _) _ _ _); k_dflt (refine' Spec.use1 (signed_figure_spec _ _ _ _ _ ?c0q167 ?c1q167 ?c2q167 ?c3q167 ?c4q167) ?k1 ?k2 ?k3 ?k4 ?k5 ?kK ?ks ?kd ?ku ?_; (case c0q167 => (k_extra "my code")); (case c1q167 => (k_extra "my code")); (case c2q167 => (k_extra "my code")); (case c3q167 => (k_extra "my code")); (case c4q167 => (k_extra "my code")); k_extra "my sides"; intro D' t' h' tk' F' N' hne'; (try dsimp only [OffN, OffP] at hne'); (try k_sweep); (try dsimp only))))
  trivial
section
theorem wd14 : True := by
  k_with "my code" => (assumption)
  k_with "my figs" => (assumption)
  k_with "mine eval ListComp" => ((k_here; k_dflt (refine ListComp_bytes (F₀ := by k_asm) (by with_unfolding_all rfl) (by decide) (by rfl) (by decide) (by rfl) ?_ (fun _ => rfl))))
  trivial
theorem display_units_over (w : World) (x dx : Addr) (es : List DictEntry) (n : Nat) {sgn : Str} {size d : Nat} (hS : ShapeIs es (Str.ofString "numeric") (Str.ofString "display") size d true false sgn) (hno : getL "sign_place" es = some none) (ns fs : List Int) (p c : Int) (f : Nat) (neg : Bool) (h0 : 0 ≤ c) (h1 : c < 256) (hcp : plusRow.contains c.toNat.toUInt8 = !neg) (hcm : minusRow.contains c.toNat.toUInt8 = neg) (hcf : Builtin.Bytes.find? (if neg then minusRow else plusRow) #[c.toNat.toUInt8] 0 10 = some f) (hfs : (ns.map (fun k => k - 48)).set p.toNat ((f : Nat) : Int) = fs) (hB : ∀ q ∈ (ns.map (fun k => k - 48)).set p.toNat ((f : Nat) : Int), 0 ≤ q ∧ q ≤ 9) (hr : ∀ n ∈ ns, 0 ≤ n ∧ n < 256) (hL : ns.length ≤ 20) (tb : Tok)
    (hpl : (if true = true then (if (sgn == Str.ofString "leading") = true then 0 else (size : Int) - 1) else -1) = p) (hp : 0 ≤ p) (hp1 : p < ns.length) (hc : ns[p.toNat]? = some c) :
    Spec w (hd.heap_1 w.params) 241 [.ref x, .bytes (byteArr ns) tb] [(x, instObj 111 dx), (dx, dictOf es n)] 4 (fun v new => new = [] ∧ ∃ t, v = .int (if neg then 0 - ofFigs 10 fs else ofFigs 10 fs) t) := by
  have hS' := hS
  obtain ⟨⟨tc, hcat⟩, ⟨tz, hsize⟩, ⟨tu, huse⟩, ⟨ts, hsign⟩, hsep, _, hsg⟩ := hS'
  have hlen : (ns.map (fun k => k - 48)).length ≤ 20 := by rw [List.length_map]; exact hL
  unfold Spec
  intro dp un gd cn cs a ccd cl outer A₀ base h₀ L m mg mb mean news s Q E B F X N T hk hs hroom hun ret
  refine enterC (binds := [(Str.ofString "shape", .ref x), (Str.ofString "octets", .bytes (byteArr ns) tb)]) B F X N T rfl rfl hk hs (by k_is) (by k_is) (show dp < recursionLimit from Nat.lt_of_le_of_lt (Nat.le_add_right _ _) hroom) (BindsTo.of_eq rfl) (locs rfl) ret ?_ rfl rfl rfl (by decide)
  clear B F X N T ret hs
  intro g L' h₁ gs5 dr5 tk os5 F' N' B' X' T' l1
  (try dsimp only)
  show wpAny _ _ _ _ _ _
  k_fold
  k_extra "my steps"
  rename Fr _ _ _ _ => hF
  rename News _ _ _ _ => hN
  refine ByteSrc.intro rfl hF hN (bInts_byteArr hr) (by (first | lia | omega)) (fun k => k - 48) ?_ ?_
  · intro s₂ hs₂ k t I oI C oC D m₂ ys h tk E' hk hk2 hC hx F₂ N₂ off ne hMk
    obtain ⟨h9, rfl⟩ := hs₂
    clear hF hN
    simp only [LCg.Off3, and_true] at off
    (try dsimp only)
    show wpAny _ _ _ _ _ _
    k_fold
    k_extra "my steps"
  · intro s₂ hs₂ ys hy D h tk F₂ N₂ off
    obtain ⟨h9, rfl⟩ := hs₂
    have hlen2 : (ns.map (fun k => k - 48)).length = ns.length := List.length_map ..
    have hysl : ys.length = (ns.map (fun k => k - 48)).length := hy.length
    clear hF hN
    (try dsimp only)
    (try k_fold)
    subst hfs
    simp only [LCg.Off1, and_true] at off
    have N₃ : News g L' h [(D, W.listOf ys.toArray ys.length), (x, instObj 111 dx), (dx, dictOf es n)] := N₂
    clear N₂
    have hplen : p < (ns.map (fun k => k - 48)).length := by (first | lia | omega)
    k_extra "my steps"
    all_goals exact Ends.plain (by k_asm) (by k_asm) (by kcj_all) ⟨rfl, _, intVal (by simp only [*, if_true, if_false, Bool.false_eq_true])⟩
end
theorem wd15 : True := by
  k_with_none
  k_with "my fold" => (((first | (with_reducible show wpAny _ _ (exec (PySem.Stmt.Assign _ _ _) _) _ _ _) | (with_reducible show wpAny _ _ (exec (PySem.Stmt.Return _ _) _) _ _ _) | (with_reducible show wpAny _ _ (exec (PySem.Stmt.If _ _ _ _) _) _ _ _) | (with_reducible show wpAny _ _ (exec (PySem.Stmt.Expr _ _) _) _ _ _) | (with_reducible show wpAny _ _ (exec (PySem.Stmt.AugAssign _ _ _ _) _) _ _ _) | (with_reducible show wpAny _ _ (eval (PySem.Expr.BinOp _ _ _ _) _) _ _ _) | (with_reducible show wpAny _ _ (eval (PySem.Expr.Call _ _ _ _) _) _ _ _)); (fail_if_success (fail_if_success k_fold)); refine (let qk := _; keepQ qk ?_)))
  k_with "my get" => (assumption)
  k_with "mine call type:range" => ((k_here; (rename Fr _ _ _ _ => F'); (rename News _ _ _ _ => N'); (with_unfolding_all refine range1_rows F' N' ?_; intro _ _ _ _ _ _ _ _ _)))
  k_with "my steps" => (repeat' (first | ((fail_if_success (fail_if_success k_unfold)); (try dsimp only); refine (?_ : wpAny _ _ _ _ _ _)) | (k_unfold; (try dsimp only)) | k_extra "my fold" | ((fail_if_success (with_reducible show wpAny _ _ (pyIter _) (fun it s₂ => LoopAtV _ _ _ _ _ _ _ _ _ it s₂) _ _)); (fail_if_success (with_reducible show wpAny _ _ (pyIter _) (fun it s₂ => PairAt3 _ _ _ _ _ _ _ _ _ _ it s₂) _ _)); (fail_if_success (with_reducible show LoopStep3 _ _ _ _ _ _ _ _ _ _)); (fail_if_success (with_reducible show InvEndN _ _ _ _ _ _ _)); (fail_if_success (with_reducible show Ends _ _ _ _ _ _)); first | walk1 | (dsimp only; walk1) | (dsimp only; k_unfold; (try dsimp only)))))
  k_with "my plain steps" => (repeat' (first | ((fail_if_success (fail_if_success k_unfold)); (try dsimp only); refine (?_ : wpAny _ _ _ _ _ _)) | (k_unfold; (try dsimp only)) | ((fail_if_success (with_reducible show wpAny _ _ (pyIter _) (fun it s₂ => LoopAtV _ _ _ _ _ _ _ _ _ it s₂) _ _)); (fail_if_success (with_reducible show wpAny _ _ (pyIter _) (fun it s₂ => PairAt3 _ _ _ _ _ _ _ _ _ _ it s₂) _ _)); (fail_if_success (with_reducible show LoopStep3 _ _ _ _ _ _ _ _ _ _)); (fail_if_success (with_reducible show InvEndN _ _ _ _ _ _ _)); (fail_if_success (with_reducible show Ends _ _ _ _ _ _)); first | walk1 | (dsimp only; walk1) | (dsimp only; k_unfold; (try dsimp only)))))
  k_with "my bytes" => (first | exact all48 (by assumption) | (refine all_cons (by decide) ?_; k_extra "my bytes") | (refine all_snoc (by decide) ?_; k_extra "my bytes"))
  k_with "my size" => (first | (first | lia | omega) | ((try simp only [List.length_map, List.length_cons, List.length_append, List.length_nil, List.length_set, List.length_reverse, lits_length, figs_length, stepKs_length]); (first | lia | omega)))
  k_with "mine call type:bytes" => ((k_here; (with_reducible show wpAny _ _ (call (Value.type "bytes") [Value.ref _]) _ _ _); k_dflt (refine' bytesOf_K ?Fq178 ?Nq178 ?mq178 ?iq178 ?rq178 ?zq178 ?hq178 ?_; (case Fq178 => k_asm); (case Nq178 => k_asm); (case mq178 => k_mem); (case iq178 => assumption); (case rq178 => k_extra "my bytes"); (case zq178 => k_extra "my size"); (case hq178 => exact rfl); k_whole); intro h' t' k' F' N'; (try k_sweep)))
  k_with "my bytes" => ((refine all_set (u8_in _) ?_; k_extra "my bytes"))
  k_with "my byte at" => ((refine fig_at (by assumption) ?_; k_extra "my size"))
  k_with "mine subscriptTail" => ((k_here; (with_reducible show wpAny _ _ (subscriptTail _ _ (Value.bytes _ _) (Value.int _ _)) _ _ _); k_dflt (refine' bytesItem_K ?aq181 ?bq181 ?_ ?hsq181 ?htq181; (case aq181 => k_extra "my byte at"); (case bq181 => decide); (case hsq181 => with_unfolding_all rfl); (case htq181 => intro _; with_unfolding_all rfl))))
  k_with "my index" => (first | (first | lia | omega) | decide | assumption)
  k_with "mine compareOp In" => ((k_here; (with_reducible show wpAny _ _ (compareOp CmpOp.In (Value.int _ _) (Value.bytes _ _)) _ _ _); k_dflt (refine' in_bytes ?aq183 ?bq183 ?_; (case aq183 => (first | lia | omega)); (case bq183 => (first | lia | omega)))))
  k_with "mine getMethod" => ((k_here; (with_reducible show wpAny _ _ (getMethod (Value.bytes _ _) "index" _) _ _ _); refine index_method ?_))
  k_with "mine call builtin:bytes.index" => ((k_here; (with_reducible show wpAny _ _ (call (Value.builtin "bytes.index") [Value.bytes _ _, Value.int _ _]) _ _ _); k_dflt (refine' bytes_index _ ?aq185 ?bq185 ?cq185 ?dq185 ?_; (case aq185 => (first | lia | omega)); (case bq185 => (first | lia | omega)); (case cq185 => decide); (case dq185 => assumption)); intro _ _; (try dsimp only)))
  k_with "mine subscriptTail" => ((k_here; (with_reducible show wpAny _ _ (subscriptTail _ _ (Value.bytes (byteArr _) _) (Value.int _ _)) _ _ _); k_dflt (refine' bytesInt_K ?aq186 ?bq186 ?rq186 ?zq186 ?_ ?hsq186 ?htq186; (case aq186 => (first | lia | omega)); (case bq186 => assumption); (case rq186 => first | assumption | k_extra "my bytes"); (case zq186 => k_extra "my size"); (case hsq186 => with_unfolding_all rfl); (case htq186 => intro _; with_unfolding_all rfl)); intro _ _; (try dsimp only)))
  k_with "my pick" => ((with_reducible first | exact kmk_upto (by l_ints) (by (first | lia | omega)) | exact kmk_from (by l_ints) (by (first | lia | omega)) | exact kmk_upto_neg (by l_ints) (by (first | lia | omega)) | exact kmk_from_neg (by l_ints) (by (first | lia | omega))))
  k_with "mine subscriptTail Name Slice ref ref" => ((k_here; (with_reducible show wpAny _ _ (subscriptTail _ (PySem.Expr.Slice _ _ none _) (Value.ref _) (Value.ref _)) _ _ _); k_dflt (refine' kmk_slice_ints ?Fq188 ?Nq188 ?lq188 ?pq188 ?qq188 ?iq188 ?mq188 ?cq188 ?_ ?sq188 ?tq188 ?zq188; (case Fq188 => k_asm); (case Nq188 => k_asm); (case lq188 => kmk_list); (case pq188 => kmk_part); (case qq188 => kmk_part); (case iq188 => l_ints); (case mq188 => k_extra "my pick"); (case cq188 => kmk_len); (case sq188 => with_unfolding_all rfl); (case tq188 => kmk_pure); (case zq188 => kmk_size)); intro D' ws' h' F' N' l1 hI' hC' hL'; (try k_lt l1); (try k_sweep)))
  k_with "my ints" => (first | l_ints | exact IntsAre.cons _ _ IntsAre.nil | exact IntsAre.cons _ _ (IntsAre.cons _ _ IntsAre.nil))
  k_with "mine binaryOp Add ref ref" => ((k_here; (with_reducible show wpAny _ _ (binaryOp _ (Value.ref _) (Value.ref _)) _ _ _); k_dflt (refine' kmk_add_ints ?Fq190 ?Nq190 ?aq190 ?bq190 ?iq190 ?jq190 ?_ ?zq190; (case Fq190 => k_asm); (case Nq190 => k_asm); (case aq190 => kmk_list); (case bq190 => kmk_list); (case iq190 => k_extra "my ints"); (case jq190 => k_extra "my ints"); (case zq190 => first | ((simp only [sizeLine_eq]); k_extra "my size") | kmk_sum)); intro D' ws' h' F' N' l1 hI'; (try k_lt l1); (try k_sweep)))
  k_with "mine call builtin:len" => ((k_here; (with_reducible show wpAny _ _ (call (Value.builtin "len") [Value.bytes (byteArr _) _]) _ _ _); k_dflt (refine' len_byteArr ?zq191 ?_; (case zq191 => k_extra "my size")); intro _ _; (try dsimp only)))
  k_with "mine call builtin:ord" => ((k_here; (with_reducible show wpAny _ _ (call (Value.builtin "ord") [Value.str _ _]) _ _ _); refine ord_of_char ?_; (try dsimp only)))
  k_with "my text slice" => (((with_reducible rename Fr _ _ _ _ => F'); (with_reducible rename News _ _ _ _ => N'); first | ((with_reducible show wpAny _ _ (subscriptTail _ (Expr.Slice none (some _) none _) _ _) _ _ _); (refine slice_strN_ns_len (hsz := ?hszq193) (s := ⟨_, _, _, _, _⟩) F' N' ?_); (case hszq193 => rw [sizeLine_eq]; (first | lia | omega))) | ((with_reducible show wpAny _ _ (subscriptTail _ (Expr.Slice (some _) none none _) _ _) _ _ _); (refine slice_strN_sn_len (hsz := ?hszq193) (s := ⟨_, _, _, _, _⟩) F' N' ?_); (case hszq193 => rw [sizeLine_eq]; (first | lia | omega)))))
  k_with "my units" => (((try simp only [units_in1, units_deeper, Around.mark_units]); (try dsimp only [ktrTop]); (first | lia | omega)))
  k_with "my tail" => ((first | assumption | (refine' And.right ?_; first | assumption | (refine' And.right ?_; first | assumption | (refine' And.right ?_; first | assumption | (refine' And.right ?_; first | assumption | (refine' And.right ?_; first | assumption | (refine' And.right ?_; first | assumption | (refine' And.right ?_; first | assumption | (refine' And.right ?_; first | assumption | (refine' And.right ?_; assumption)))))))))))
  k_with "my conj" => (first | k_extra "my tail" | (refine' And.left ?_; k_extra "my tail") | (refine' And.left ?_; refine' And.left ?_; k_extra "my tail") | (refine' And.right ?_; refine' And.left ?_; k_extra "my tail"))
  k_with "my ne" => ((refine neN ?_; (try dsimp only); first | (refine' Nat.ne_of_lt ?_; k_extra "my conj") | (refine' Nat.ne_of_gt ?_; k_extra "my conj") | k_extra "my conj" | (refine' Ne.symm ?_; k_extra "my conj") | (first | lia | omega)))
  k_with "my sides" => (((case k1 => k_asm); (case k2 => k_asm); (case k3 => k_asm); (case k4 => k_asm); (case k5 => k_asm); (case kK => first | assumption | exact rfl); (case ks => kcj_all); (case kd => first | ((try simp only [depth_mark, depth_under_make, depth_under_kw, depth_in1, depth_deeper]); (try dsimp only [ktrTop]); first | (refine' room3 ?hhq198 ?llq198; (case hhq198 => assumption); (case llq198 => exact Nat.le_of_ble_eq_true rfl)) | (first | lia | omega)) | (with_unfolding_all exact Nat.le_of_ble_eq_true rfl)); (case ku => first | ((try simp only [units_in1, units_deeper, Around.mark_units]); (try dsimp only [ktrTop]); first | (refine' room3 ?hhq198 ?llq198; (case hhq198 => assumption); (case llq198 => exact Nat.le_of_ble_eq_true rfl)) | (first | lia | omega)) | (with_unfolding_all exact Nat.le_of_ble_eq_true rfl))))
  k_with "mine call ref" => ((k_here; (with_reducible show wpAny _ _ (call (Value.ref 229) _) _ _ _); k_dflt (refine' Spec.use0 (joined_figures_spec _ _ _ _ _ ?c0q199 ?c1q199 ?c2q199) ?k1 ?k2 ?k3 ?k4 ?k5 ?kK ?ks ?kd ?ku ?_; (case c0q199 => assumption); (case c1q199 => (k_extra "my figs")); (case c2q199 => (k_extra "my size")); k_extra "my sides"; intro t' h' tk' F' N'; (try k_sweep); (try dsimp only))))
  trivial
section
theorem take_last {hs : List Int} {mk : Int} : List.take ((hs ++ [mk]).length - (- -1 : Int).toNat) (hs ++ [mk]) = hs := by
  rw [List.length_append, List.length_singleton, show hs.length + 1 - (- -1 : Int).toNat = hs.length from rfl, List.take_left']
  rfl
theorem wd16 : True := by
  k_with "my figs" => ((rw [take_last]; assumption))
  trivial
def halvesOf (ns : List Int) : List Int := ns.flatMap fun k => [k.fdiv 16, k.fmod 16]
theorem halvesOf_length (ns : List Int) : (halvesOf ns).length = 2 * ns.length := by
  induction ns with
  | nil => rfl
  | cons a r ih => simp only [halvesOf, List.flatMap_cons, List.length_append, List.length_cons] at *; simp only [List.length_nil]; (first | lia | omega)
theorem packed_units_spec (w : World) (x dx : Addr) (es : List DictEntry) (n : Nat) {cat us sgn : Str} {size d : Nat} {sg sep : Bool} (hS : ShapeIs es cat us size d sg sep sgn) (ns hs : List Int) (mk : Int) (hr : ∀ n ∈ ns, 0 ≤ n ∧ n < 256) (hL : ns.length ≤ 10) (hh : halvesOf ns = hs ++ [mk])
    (hB : ∀ q ∈ hs, 0 ≤ q ∧ q ≤ 9) (hmk : mk = 15 ∨ (sg = true ∧ (mk = 12 ∨ mk = 13))) (tb : Tok) :
    Spec w (hd.heap_1 w.params) 248 [.ref x, .bytes (byteArr ns) tb] [(x, instObj 111 dx), (dx, dictOf es n)] 4 (fun v new => new = [] ∧ ∃ t, v = .int (if mk = 13 then 0 - ofFigs 10 hs else ofFigs 10 hs) t) := by
  have hS' := hS
  obtain ⟨_, ⟨tz, hsize⟩, _, _, _, _, hsg⟩ := hS'
  unfold Spec
  intro dp un gd cn cs a ccd cl outer A₀ base h₀ L m mg mb mean news s Q E B F X N T hk hss hroom hun ret
  refine enterC (binds := [(Str.ofString "shape", .ref x), (Str.ofString "octets", .bytes (byteArr ns) tb)]) B F X N T rfl rfl hk hss (by k_is) (by k_is) (show dp < recursionLimit from Nat.lt_of_le_of_lt (Nat.le_add_right _ _) hroom) (BindsTo.of_eq rfl) (locs rfl) ret ?_ rfl rfl rfl (by decide)
  clear B F X N T ret hss
  intro g L' h₁ gs5 dr5 tk os5 F' N' B' X' T' l1
  (try dsimp only)
  show wpAny _ _ _ _ _ _
  k_fold
  k_extra "my steps"
  rename Fr _ _ _ _ => hF
  rename News _ _ _ _ => hN
  refine bytes_fresh (ks := ns) (fun pre m₁ news₁ => ∃ l vs c u, news₁ = [(l, W.listOf vs.toArray c), (x, instObj 111 dx), (dx, dictOf es n)] ∧ ¬ @Eq Nat l x ∧ ¬ @Eq Nat l dx ∧ IntsAre vs (halvesOf pre) ∧ m₁ = fun z => if z = Str.ofString "code" then u else if z = Str.ofString "halves" then some (.ref l) else List.lookup z [(Str.ofString "shape", Value.ref x), (Str.ofString "octets", Value.bytes (byteArr ns) tb)].reverse) (bInts_byteArr hr) rfl hF hN ?_ ?_ ?_
  · exact ⟨_, [], 0, _, rfl, by (first | lia | omega), by (first | lia | omega), .nil, putAside (by decide)⟩
  · rintro pre post k t m₁ news₁ h tk own hk1 hk2 hk3 ⟨l, vs, c, u, rfl, hlx, hld, hi, rfl⟩ hoff F₁ N₁
    have hlen : vs.length ≤ 20 := by rw [hi.length, halvesOf_length]; have := congrArg List.length hk1; simp only [List.length_append, List.length_cons] at this; (first | lia | omega)
    have hlen2 : (halvesOf pre).length ≤ 18 := by rw [halvesOf_length]; have := congrArg List.length hk1; simp only [List.length_append, List.length_cons] at this; (first | lia | omega)
    clear hF hN
    have hMk := kstMark
    simp only [List.cons_append, List.nil_append] at N₁
    (try dsimp only)
    show wpAny _ _ _ _ _ _
    k_fold
    k_extra "my steps"
    rename _ ∧ _ ∧ _ ∧ _ ∧ AllLt _ _ => hl1
    rename IntsAre _ (_ ++ _) => hi2
    obtain ⟨q1, q2, q3, q4, q5⟩ := hl1
    refine FrEnd.intro [_, _, _] (by assumption) (by assumption) (by kcj_all) (fun p hp => by simp [hp]) ?_ ⟨_, _, _, some (Value.int k t), rfl, by (first | lia | omega), by (first | lia | omega), ?_, ?_⟩
    · intro p hp q hq
      simp only [List.mem_cons, List.not_mem_nil, or_false] at hp
      rcases hp with rfl | rfl | rfl
      · exact Nat.ne_of_gt (allLt_mem q5 q hq)
      · exact hoff _ (List.Mem.tail _ (List.Mem.head _)) q hq
      · exact hoff _ (List.Mem.tail _ (List.Mem.tail _ (List.Mem.head _))) q hq
    · rw [halvesOf, List.flatMap_append]; exact hi2
    · exact putAgain (by decide)
  · rintro m₁ news₁ h tk ⟨l, vs, c, u, rfl, hlx, hld, hi, rfl⟩ F₁ N₁
    have hlen : vs.length ≤ 20 := by rw [hi.length, halvesOf_length]; (first | lia | omega)
    rw [hh] at hi
    have hlen2 : (hs ++ [mk]).length ≤ 20 := by rw [← hi.length]; exact hlen
    have hlen3 : 1 ≤ vs.length := by rw [hi.length, List.length_append, List.length_singleton]; (first | lia | omega)
    clear hF hN
    (try dsimp only)
    (try k_fold)
    rcases hmk with rfl | ⟨rfl, rfl | rfl⟩
    all_goals k_extra "my steps"
    all_goals exact Ends.plain (by k_asm) (by k_asm) (by kcj_all) ⟨rfl, _, intVal (by rw [take_last]; rfl)⟩
end
theorem wd17 : True := by
  k_with_none
  k_with "my fold" => (((first | (with_reducible show wpAny _ _ (exec (PySem.Stmt.Assign _ _ _) _) _ _ _) | (with_reducible show wpAny _ _ (exec (PySem.Stmt.Return _ _) _) _ _ _) | (with_reducible show wpAny _ _ (exec (PySem.Stmt.If _ _ _ _) _) _ _ _) | (with_reducible show wpAny _ _ (exec (PySem.Stmt.Expr _ _) _) _ _ _) | (with_reducible show wpAny _ _ (exec (PySem.Stmt.AugAssign _ _ _ _) _) _ _ _) | (with_reducible show wpAny _ _ (eval (PySem.Expr.BinOp _ _ _ _) _) _ _ _) | (with_reducible show wpAny _ _ (eval (PySem.Expr.Call _ _ _ _) _) _ _ _)); (fail_if_success (fail_if_success k_fold)); refine (let qk := _; keepQ qk ?_)))
  k_with "my get" => (assumption)
  k_with "mine call type:range" => ((k_here; (rename Fr _ _ _ _ => F'); (rename News _ _ _ _ => N'); (with_unfolding_all refine range1_rows F' N' ?_; intro _ _ _ _ _ _ _ _ _)))
  k_with "my steps" => (repeat' (first | ((fail_if_success (fail_if_success k_unfold)); (try dsimp only); refine (?_ : wpAny _ _ _ _ _ _)) | (k_unfold; (try dsimp only)) | k_extra "my fold" | ((fail_if_success (with_reducible show wpAny _ _ (pyIter _) (fun it s₂ => LoopAtV _ _ _ _ _ _ _ _ _ it s₂) _ _)); (fail_if_success (with_reducible show wpAny _ _ (pyIter _) (fun it s₂ => PairAt3 _ _ _ _ _ _ _ _ _ _ it s₂) _ _)); (fail_if_success (with_reducible show LoopStep3 _ _ _ _ _ _ _ _ _ _)); (fail_if_success (with_reducible show InvEndN _ _ _ _ _ _ _)); (fail_if_success (with_reducible show Ends _ _ _ _ _ _)); first | walk1 | (dsimp only; walk1) | (dsimp only; k_unfold; (try dsimp only)))))
  k_with "my plain steps" => (repeat' (first | ((fail_if_success (fail_if_success k_unfold)); (try dsimp only); refine (?_ : wpAny _ _ _ _ _ _)) | (k_unfold; (try dsimp only)) | ((fail_if_success (with_reducible show wpAny _ _ (pyIter _) (fun it s₂ => LoopAtV _ _ _ _ _ _ _ _ _ it s₂) _ _)); (fail_if_success (with_reducible show wpAny _ _ (pyIter _) (fun it s₂ => PairAt3 _ _ _ _ _ _ _ _ _ _ it s₂) _ _)); (fail_if_success (with_reducible show LoopStep3 _ _ _ _ _ _ _ _ _ _)); (fail_if_success (with_reducible show InvEndN _ _ _ _ _ _ _)); (fail_if_success (with_reducible show Ends _ _ _ _ _ _)); first | walk1 | (dsimp only; walk1) | (dsimp only; k_unfold; (try dsimp only)))))
  k_with "my bytes" => (first | exact all48 (by assumption) | (refine all_cons (by decide) ?_; k_extra "my bytes") | (refine all_snoc (by decide) ?_; k_extra "my bytes"))
  k_with "my size" => (first | (first | lia | omega) | ((try simp only [List.length_map, List.length_cons, List.length_append, List.length_nil, List.length_set, List.length_reverse, lits_length, figs_length, stepKs_length]); (first | lia | omega)))
  k_with "mine call type:bytes" => ((k_here; (with_reducible show wpAny _ _ (call (Value.type "bytes") [Value.ref _]) _ _ _); k_dflt (refine' bytesOf_K ?Fq208 ?Nq208 ?mq208 ?iq208 ?rq208 ?zq208 ?hq208 ?_; (case Fq208 => k_asm); (case Nq208 => k_asm); (case mq208 => k_mem); (case iq208 => assumption); (case rq208 => k_extra "my bytes"); (case zq208 => k_extra "my size"); (case hq208 => exact rfl); k_whole); intro h' t' k' F' N'; (try k_sweep)))
  k_with "my bytes" => ((refine all_set (u8_in _) ?_; k_extra "my bytes"))
  k_with "my byte at" => ((refine fig_at (by assumption) ?_; k_extra "my size"))
  k_with "mine subscriptTail" => ((k_here; (with_reducible show wpAny _ _ (subscriptTail _ _ (Value.bytes _ _) (Value.int _ _)) _ _ _); k_dflt (refine' bytesItem_K ?aq211 ?bq211 ?_ ?hsq211 ?htq211; (case aq211 => k_extra "my byte at"); (case bq211 => decide); (case hsq211 => with_unfolding_all rfl); (case htq211 => intro _; with_unfolding_all rfl))))
  k_with "my index" => (first | (first | lia | omega) | decide | assumption)
  k_with "mine compareOp In" => ((k_here; (with_reducible show wpAny _ _ (compareOp CmpOp.In (Value.int _ _) (Value.bytes _ _)) _ _ _); k_dflt (refine' in_bytes ?aq213 ?bq213 ?_; (case aq213 => (first | lia | omega)); (case bq213 => (first | lia | omega)))))
  k_with "mine getMethod" => ((k_here; (with_reducible show wpAny _ _ (getMethod (Value.bytes _ _) "index" _) _ _ _); refine index_method ?_))
  k_with "mine call builtin:bytes.index" => ((k_here; (with_reducible show wpAny _ _ (call (Value.builtin "bytes.index") [Value.bytes _ _, Value.int _ _]) _ _ _); k_dflt (refine' bytes_index _ ?aq215 ?bq215 ?cq215 ?dq215 ?_; (case aq215 => (first | lia | omega)); (case bq215 => (first | lia | omega)); (case cq215 => decide); (case dq215 => assumption)); intro _ _; (try dsimp only)))
  k_with "mine subscriptTail" => ((k_here; (with_reducible show wpAny _ _ (subscriptTail _ _ (Value.bytes (byteArr _) _) (Value.int _ _)) _ _ _); k_dflt (refine' bytesInt_K ?aq216 ?bq216 ?rq216 ?zq216 ?_ ?hsq216 ?htq216; (case aq216 => (first | lia | omega)); (case bq216 => assumption); (case rq216 => first | assumption | k_extra "my bytes"); (case zq216 => k_extra "my size"); (case hsq216 => with_unfolding_all rfl); (case htq216 => intro _; with_unfolding_all rfl)); intro _ _; (try dsimp only)))
  k_with "my pick" => ((with_reducible first | exact kmk_upto (by l_ints) (by (first | lia | omega)) | exact kmk_from (by l_ints) (by (first | lia | omega)) | exact kmk_upto_neg (by l_ints) (by (first | lia | omega)) | exact kmk_from_neg (by l_ints) (by (first | lia | omega))))
  k_with "mine subscriptTail Name Slice ref ref" => ((k_here; (with_reducible show wpAny _ _ (subscriptTail _ (PySem.Expr.Slice _ _ none _) (Value.ref _) (Value.ref _)) _ _ _); k_dflt (refine' kmk_slice_ints ?Fq218 ?Nq218 ?lq218 ?pq218 ?qq218 ?iq218 ?mq218 ?cq218 ?_ ?sq218 ?tq218 ?zq218; (case Fq218 => k_asm); (case Nq218 => k_asm); (case lq218 => kmk_list); (case pq218 => kmk_part); (case qq218 => kmk_part); (case iq218 => l_ints); (case mq218 => k_extra "my pick"); (case cq218 => kmk_len); (case sq218 => with_unfolding_all rfl); (case tq218 => kmk_pure); (case zq218 => kmk_size)); intro D' ws' h' F' N' l1 hI' hC' hL'; (try k_lt l1); (try k_sweep)))
  k_with "my ints" => (first | l_ints | exact IntsAre.cons _ _ IntsAre.nil | exact IntsAre.cons _ _ (IntsAre.cons _ _ IntsAre.nil))
  k_with "mine binaryOp Add ref ref" => ((k_here; (with_reducible show wpAny _ _ (binaryOp _ (Value.ref _) (Value.ref _)) _ _ _); k_dflt (refine' kmk_add_ints ?Fq220 ?Nq220 ?aq220 ?bq220 ?iq220 ?jq220 ?_ ?zq220; (case Fq220 => k_asm); (case Nq220 => k_asm); (case aq220 => kmk_list); (case bq220 => kmk_list); (case iq220 => k_extra "my ints"); (case jq220 => k_extra "my ints"); (case zq220 => first | ((simp only [sizeLine_eq]); k_extra "my size") | kmk_sum)); intro D' ws' h' F' N' l1 hI'; (try k_lt l1); (try k_sweep)))
  k_with "mine call builtin:len" => ((k_here; (with_reducible show wpAny _ _ (call (Value.builtin "len") [Value.bytes (byteArr _) _]) _ _ _); k_dflt (refine' len_byteArr ?zq221 ?_; (case zq221 => k_extra "my size")); intro _ _; (try dsimp only)))
  k_with "mine call builtin:ord" => ((k_here; (with_reducible show wpAny _ _ (call (Value.builtin "ord") [Value.str _ _]) _ _ _); refine ord_of_char ?_; (try dsimp only)))
  k_with "my text slice" => (((with_reducible rename Fr _ _ _ _ => F'); (with_reducible rename News _ _ _ _ => N'); first | ((with_reducible show wpAny _ _ (subscriptTail _ (Expr.Slice none (some _) none _) _ _) _ _ _); (refine slice_strN_ns_len (hsz := ?hszq223) (s := ⟨_, _, _, _, _⟩) F' N' ?_); (case hszq223 => rw [sizeLine_eq]; (first | lia | omega))) | ((with_reducible show wpAny _ _ (subscriptTail _ (Expr.Slice (some _) none none _) _ _) _ _ _); (refine slice_strN_sn_len (hsz := ?hszq223) (s := ⟨_, _, _, _, _⟩) F' N' ?_); (case hszq223 => rw [sizeLine_eq]; (first | lia | omega)))))
  k_with "my units" => (((try simp only [units_in1, units_deeper, Around.mark_units]); (try dsimp only [ktrTop]); (first | lia | omega)))
  k_with "my tail" => ((first | assumption | (refine' And.right ?_; first | assumption | (refine' And.right ?_; first | assumption | (refine' And.right ?_; first | assumption | (refine' And.right ?_; first | assumption | (refine' And.right ?_; first | assumption | (refine' And.right ?_; first | assumption | (refine' And.right ?_; first | assumption | (refine' And.right ?_; first | assumption | (refine' And.right ?_; assumption)))))))))))
  k_with "my conj" => (first | k_extra "my tail" | (refine' And.left ?_; k_extra "my tail") | (refine' And.left ?_; refine' And.left ?_; k_extra "my tail") | (refine' And.right ?_; refine' And.left ?_; k_extra "my tail"))
  k_with "my ne" => ((refine neN ?_; (try dsimp only); first | (refine' Nat.ne_of_lt ?_; k_extra "my conj") | (refine' Nat.ne_of_gt ?_; k_extra "my conj") | k_extra "my conj" | (refine' Ne.symm ?_; k_extra "my conj") | (first | lia | omega)))
  k_with "my sides" => (((case k1 => k_asm); (case k2 => k_asm); (case k3 => k_asm); (case k4 => k_asm); (case k5 => k_asm); (case kK => first | assumption | exact rfl); (case ks => kcj_all); (case kd => first | ((try simp only [depth_mark, depth_under_make, depth_under_kw, depth_in1, depth_deeper]); (try dsimp only [ktrTop]); first | (refine' room3 ?hhq228 ?llq228; (case hhq228 => assumption); (case llq228 => exact Nat.le_of_ble_eq_true rfl)) | (first | lia | omega)) | (with_unfolding_all exact Nat.le_of_ble_eq_true rfl)); (case ku => first | ((try simp only [units_in1, units_deeper, Around.mark_units]); (try dsimp only [ktrTop]); first | (refine' room3 ?hhq228 ?llq228; (case hhq228 => assumption); (case llq228 => exact Nat.le_of_ble_eq_true rfl)) | (first | lia | omega)) | (with_unfolding_all exact Nat.le_of_ble_eq_true rfl))))
  trivial
section
theorem ofFigs_snoc {b a : Int} {fs : List Int} : b * ofFigs b fs + a = ofFigs b (fs ++ [a]) := by
  unfold ofFigs
  rw [List.foldl_append]; rfl
theorem binary_units_spec (w : World) (x dx : Addr) (es : List DictEntry) (n : Nat) {cat us sgn : Str} {size d : Nat} {sg sep : Bool} (hS : ShapeIs es cat us size d sg sep sgn) (ns : List Int) (c0 : Int) (hr : ∀ n ∈ ns, 0 ≤ n ∧ n < 256) (hL : ns.length ≤ 10) (hc : ns[(0 : Int).toNat]? = some c0) (tb : Tok) :
    Spec w (hd.heap_1 w.params) 255 [.ref x, .bytes (byteArr ns) tb] [(x, instObj 111 dx), (dx, dictOf es n)] 2 (fun v new => new = [] ∧ ∃ t, v = .int (if sg = true ∧ 127 < c0 then ofFigs 256 ns - 256 ^ ns.length else ofFigs 256 ns) t) := by
  have hS' := hS
  obtain ⟨_, ⟨tz, hsize⟩, _, _, _, _, hsg⟩ := hS'
  unfold Spec
  intro dp un gd cn cs a ccd cl outer A₀ base h₀ L m mg mb mean news s Q E B F X N T hk hss hroom hun ret
  refine enterC (binds := [(Str.ofString "shape", .ref x), (Str.ofString "octets", .bytes (byteArr ns) tb)]) B F X N T rfl rfl hk hss (by k_is) (by k_is) (show dp < recursionLimit from Nat.lt_of_le_of_lt (Nat.le_add_right _ _) hroom) (BindsTo.of_eq rfl) (locs rfl) ret ?_ rfl rfl rfl (by decide)
  clear B F X N T ret hss
  intro g L' h₁ gs5 dr5 tk os5 F' N' B' X' T' l1
  (try dsimp only)
  show wpAny _ _ _ _ _ _
  k_fold
  k_extra "my steps"
  rename Fr _ _ _ _ => hF
  rename News _ _ _ _ => hN
  refine bytes_fresh (ks := ns) (fun pre m₁ news₁ => ∃ u t, news₁ = [(x, instObj 111 dx), (dx, dictOf es n)] ∧ m₁ = fun z => if z = Str.ofString "code" then u else if z = Str.ofString "found" then some (.int (ofFigs 256 pre) t) else List.lookup z [(Str.ofString "shape", Value.ref x), (Str.ofString "octets", Value.bytes (byteArr ns) tb)].reverse) (bInts_byteArr hr) rfl hF hN ?_ ?_ ?_
  · exact ⟨_, _, rfl, putAside (by decide)⟩
  · rintro pre post k t m₁ news₁ h tk own hk1 hk2 hk3 ⟨u, tf, rfl, rfl⟩ hoff F₁ N₁
    clear hF hN
    have hMk := kstMark
    simp only [List.cons_append, List.nil_append] at N₁
    (try dsimp only)
    show wpAny _ _ _ _ _ _
    k_fold
    k_extra "my steps"
    rw [ofFigs_snoc] at *
    exact FrEnd.intro [_, _] (by assumption) (by assumption) (by kcj_all) (fun p hp => by simp [hp]) hoff ⟨some (Value.int k t), _, rfl, putAgain (by decide)⟩
  · rintro m₁ news₁ h tk ⟨u, tf, rfl, rfl⟩ F₁ N₁
    clear hF hN
    (try dsimp only)
    (try k_fold)
    k_extra "my steps"
    · exact Ends.plain (by k_asm) (by k_asm) (by kcj_all) ⟨rfl, _, intVal (if_pos ⟨by assumption, by assumption⟩).symm⟩
    · exact Ends.plain (by k_asm) (by k_asm) (by kcj_all) ⟨rfl, _, intVal (if_neg (fun h => absurd h.2 (by assumption))).symm⟩
    · exact Ends.plain (by k_asm) (by k_asm) (by kcj_all) ⟨rfl, _, intVal (if_neg (fun h => absurd h.1 (ne_true_of_eq_false (by assumption)))).symm⟩
end
section
theorem ofFigs_figs {b : Nat} (hb : 0 < b) : ∀ c n, ofFigs b ((figs b c n).map Int.ofNat) = ((n % b ^ c : Nat) : Int)
  | 0, n => by simp [figs, ofFigs, Nat.mod_one]
  | c + 1, n => by
    rw [figs, List.map_append, List.map_singleton, ← ofFigs_snoc, ofFigs_figs hb c (n / b)]
    show (b : Int) * ((n / b % b ^ c : Nat) : Int) + ((n % b : Nat) : Int) = _
    rw [Nat.pow_succ, Nat.mul_comm (b ^ c) b, Nat.mod_mul]
    push_cast
    (first | lia | omega)
theorem figs_in {b : Nat} (hb : 0 < b) (c n : Nat) : ∀ q ∈ (figs b c n).map Int.ofNat, 0 ≤ q ∧ q ≤ (b : Int) - 1 := by
  intro q hq
  obtain ⟨k, hk, rfl⟩ := List.mem_map.mp hq
  have := figs_lt hb c n k hk
  exact ⟨Int.natCast_nonneg k, by show (k : Int) ≤ _; (first | lia | omega)⟩
/-- a number that a shape keeps -/
def Keeps (d : Nat) (sg : Bool) (u : Int) : Prop := u.natAbs < 10 ^ d ∧ (sg = false → 0 ≤ u)
theorem fs_val {d : Nat} {u : Int} (h : u.natAbs < 10 ^ d) : ofFigs 10 ((figs 10 d u.natAbs).map Int.ofNat) = (u.natAbs : Int) := by
  have := ofFigs_figs (b := 10) (by decide) d u.natAbs
  rw [Nat.mod_eq_of_lt h] at this
  exact this
theorem code_facts : ∀ neg : Bool, ∀ f, f < 10 → plusRow.contains ((if neg then minusRow else plusRow).toList.getD f 0) = !neg ∧ minusRow.contains ((if neg then minusRow else plusRow).toList.getD f 0) = neg ∧
    Builtin.Bytes.find? (if neg then minusRow else plusRow) #[(if neg then minusRow else plusRow).toList.getD f 0] 0 10 = some f := by decide +kernel
theorem u8_back (c : UInt8) : (((c.toNat : Nat) : Int)).toNat.toUInt8 = c := by
  rw [Int.toNat_natCast]
  exact UInt8.ofNat_toNat
theorem row_eq (u : Int) : rowOf u = if (decide (u < 0)) then minusRow else plusRow := by
  unfold rowOf minusRow plusRow
  by_cases h : u < 0 <;> simp [h]
theorem spec_int {w : World} {K : Frag} {f : Addr} {args : List Value} {sub : List (Addr × Obj)} {n : Nat} {a b : Int} (e : a = b) (h : Spec w K f args sub n (fun v new => new = [] ∧ ∃ t, v = .int a t)) : Spec w K f args sub n (fun v new => new = [] ∧ ∃ t, v = .int b t) := e ▸ h
theorem codes_back {d n : Nat} : (codesOf d n).map (fun k => k - 48) = (figs 10 d n).map Int.ofNat := back48 _
theorem codes_in {d n : Nat} : ∀ q ∈ codesOf d n, 0 ≤ q ∧ q < 256 := all48 (figs_in (b := 10) (by decide) d n)
theorem codes_get {d n k : Nat} (hk : k < d) : ∃ f, f < 10 ∧ ((figs 10 d n).map Int.ofNat)[k]? = some ((f : Nat) : Int) ∧ (codesOf d n).getD k 0 = 48 + (f : Int) := by
  have hl : k < (figs 10 d n).length := by rw [figs_length]; exact hk
  refine ⟨(figs 10 d n)[k], figs_lt (by decide) d n _ (List.getElem_mem hl), ?_, ?_⟩
  · rw [List.getElem?_map, List.getElem?_eq_getElem hl]; rfl
  · rw [codesOf, List.getD_eq_getElem?_getD, List.getElem?_map, List.getElem?_map, List.getElem?_eq_getElem hl]; rfl
theorem display_back (w : World) (x dx : Addr) (es : List DictEntry) (n : Nat) {sgn : Str} {size d : Nat} {sg sep : Bool} (hS : ShapeIs es (Str.ofString "numeric") (Str.ofString "display") size d sg sep sgn) (hno : getL "sign_place" es = some none)
    (h0 : 1 ≤ d) (h1 : d ≤ 18) (hz : size = d + (if sg = true ∧ sep = true then 1 else 0)) (u : Int) (hu : Keeps d sg u) (tb : Tok) :
    Spec w (hd.heap_1 w.params) 241 [.ref x, .bytes (byteArr (dispOct d sg sep (sgn == Str.ofString "leading") u)) tb] [(x, instObj 111 dx), (dx, dictOf es n)] 4 (fun v new => new = [] ∧ ∃ t, v = .int u t) := by
  obtain ⟨hu1, hu2⟩ := hu
  have hfs := fs_val hu1
  have hfi := figs_in (b := 10) (by decide) d u.natAbs
  have hfl : ((figs 10 d u.natAbs).map Int.ofNat).length = d := by rw [List.length_map, figs_length]
  cases sg with
  | false =>
    have e : dispOct d false sep (sgn == Str.ofString "leading") u = ((figs 10 d u.natAbs).map Int.ofNat).map fun k => 48 + k := if_pos rfl
    rw [e]
    exact spec_int (by rw [hfs]; have := hu2 rfl; (first | lia | omega)) (display_units_plain w x dx es n hS hno _ hfi (by (first | lia | omega)) tb)
  | true =>
    cases sep with
    | true =>
      rw [if_pos ⟨rfl, rfl⟩] at hz
      have e : dispOct d true true (sgn == Str.ofString "leading") u = if (sgn == Str.ofString "leading") = true then [signAt u] ++ codesOf d u.natAbs else codesOf d u.natAbs ++ [signAt u] := rfl
      have hv : (if decide (u < 0) = true then 0 - ofFigs 10 ((figs 10 d u.natAbs).map Int.ofNat) else ofFigs 10 ((figs 10 d u.natAbs).map Int.ofNat)) = u := by
        rw [hfs]; by_cases h : u < 0 <;> simp only [h, decide_true, decide_false, if_true, if_false, Bool.false_eq_true] <;> (first | lia | omega)
      have hsgn : signAt u = if decide (u < 0) = true then 45 else 43 := by unfold signAt; by_cases h : u < 0 <;> simp [h]
      have hsi : 0 ≤ signAt u ∧ signAt u < 256 := by unfold signAt; split <;> (first | lia | omega)
      rw [e]
      by_cases hl : (sgn == Str.ofString "leading") = true
      · rw [if_pos hl]
        refine spec_int hv (display_units_sep w x dx es n hS hno ([signAt u] ++ codesOf d u.natAbs) _ 0 (signAt u) (decide (u < 0)) ?_ ?_ (all_cons hsi codes_in) (by rw [List.length_append, codesOf_length, List.length_singleton]; (first | lia | omega)) tb (by rw [if_pos rfl, if_pos hl]) (by (first | lia | omega)) (by rw [List.length_append, codesOf_length, List.length_singleton]; (first | lia | omega)) rfl hsgn)
        · rw [List.map_append, codes_back]; rfl
        · rw [List.map_append, codes_back]; exact hfi
      · rw [if_neg hl]
        have hd1 : ((d : Nat) : Int).toNat = d := Int.toNat_natCast d
        have hd2 : ((d : Nat) + 1 : Int).toNat = d + 1 := by (first | lia | omega)
        have hcl : ((figs 10 d u.natAbs).map Int.ofNat).length = d := hfl
        have e2 : List.take ((d : Nat) : Int).toNat ((codesOf d u.natAbs ++ [signAt u]).map (fun k => k - 48)) ++ List.drop ((d : Int) + 1).toNat ((codesOf d u.natAbs ++ [signAt u]).map (fun k => k - 48)) = (figs 10 d u.natAbs).map Int.ofNat := by
          rw [List.map_append, codes_back, hd1, hd2, List.take_left' hfl, List.drop_of_length_le (by rw [List.length_append, hfl]; simp), List.append_nil]
        refine spec_int hv (display_units_sep w x dx es n hS hno (codesOf d u.natAbs ++ [signAt u]) _ (d : Int) (signAt u) (decide (u < 0)) e2 ?_ (all_snoc hsi codes_in) (by rw [List.length_append, codesOf_length, List.length_singleton]; (first | lia | omega)) tb (by rw [if_pos rfl, if_neg hl, hz]; (first | lia | omega)) (by (first | lia | omega)) (by rw [List.length_append, codesOf_length, List.length_singleton]; (first | lia | omega)) ?_ hsgn)
        · rw [e2]; exact hfi
        · rw [hd1, List.getElem?_append_right (by rw [codesOf_length]; (first | lia | omega)), codesOf_length, Nat.sub_self]; rfl
    | false =>
      rw [if_neg (fun h => Bool.false_ne_true h.2)] at hz
      have hv : (if decide (u < 0) = true then 0 - ofFigs 10 ((figs 10 d u.natAbs).map Int.ofNat) else ofFigs 10 ((figs 10 d u.natAbs).map Int.ofNat)) = u := by
        rw [hfs]; by_cases h : u < 0 <;> simp only [h, decide_true, decide_false, if_true, if_false, Bool.false_eq_true] <;> (first | lia | omega)
      have main : ∀ k : Nat, k < d → (if true = true then (if (sgn == Str.ofString "leading") = true then 0 else (size : Int) - 1) else -1) = (k : Int) →
          Spec w (hd.heap_1 w.params) 241 [.ref x, .bytes (byteArr ((codesOf d u.natAbs).set k ((((rowOf u).toList.getD ((codesOf d u.natAbs).getD k 0 - 48).toNat 0).toNat : Nat) : Int))) tb] [(x, instObj 111 dx), (dx, dictOf es n)] 4 (fun v new => new = [] ∧ ∃ t, v = .int u t) := by
        intro k hk hpl
        obtain ⟨f, hf, hg, hc⟩ := codes_get (n := u.natAbs) hk
        rw [hc, show (48 + (f : Int) - 48).toNat = f by (first | lia | omega), row_eq]
        obtain ⟨f1, f2, f3⟩ := code_facts (decide (u < 0)) f hf
        have hk2 : ((k : Nat) : Int).toNat = k := Int.toNat_natCast k
        have e2 : (((codesOf d u.natAbs).set k (((((if decide (u < 0) = true then minusRow else plusRow).toList.getD f 0).toNat : Nat) : Int))).map (fun k => k - 48)).set (k : Int).toNat ((f : Nat) : Int) = (figs 10 d u.natAbs).map Int.ofNat := by
          rw [List.map_set, codes_back, hk2, List.set_set]
          have hk3 : k < ((figs 10 d u.natAbs).map Int.ofNat).length := by (first | lia | omega)
          rw [List.getElem?_eq_getElem hk3] at hg
          have hg' := Option.some.inj hg
          rw [← hg']; exact List.set_getElem_self hk3
        refine spec_int hv (display_units_over w x dx es n hS hno _ _ (k : Int) _ f (decide (u < 0)) (u8_in _).1 (u8_in _).2 (by rw [u8_back]; exact f1) (by rw [u8_back]; exact f2) (by rw [u8_back]; exact f3) e2 ?_ (all_set (u8_in _) codes_in) (by rw [List.length_set, codesOf_length]; (first | lia | omega)) tb hpl (by (first | lia | omega)) (by rw [List.length_set, codesOf_length]; (first | lia | omega)) ?_)
        · rw [e2]; exact hfi
        · rw [hk2, List.getElem?_set_self (by rw [codesOf_length]; exact hk)]
      have e : dispOct d true false (sgn == Str.ofString "leading") u = (codesOf d u.natAbs).set (if (sgn == Str.ofString "leading") = true then 0 else d - 1) ((((rowOf u).toList.getD ((codesOf d u.natAbs).getD (if (sgn == Str.ofString "leading") = true then 0 else d - 1) 0 - 48).toNat 0).toNat : Nat) : Int) := rfl
      rw [e]
      refine main _ (by split <;> (first | lia | omega)) ?_
      rw [if_pos rfl, hz]
      split <;> (first | lia | omega)
end
section
theorem pairs_back : ∀ (m : Nat) (h : List Int), h.length = 2 * m → (∀ q ∈ h, 0 ≤ q ∧ q ≤ 15) → ((List.range m).map (fun i => 16 * h.getD (2 * i) 0 + h.getD (2 * i + 1) 0)).flatMap (fun k => [k.fdiv 16, k.fmod 16]) = h
  | 0, h, hl, _ => by rw [List.eq_nil_of_length_eq_zero hl]; rfl
  | m + 1, [], hl, _ => by simp at hl
  | m + 1, [_], hl, _ => by simp at hl; (first | lia | omega)
  | m + 1, a :: b :: r, hl, hq => by
    have ih := pairs_back m r (by simp only [List.length_cons] at hl; (first | lia | omega)) (fun q hm => hq q (List.Mem.tail _ (List.Mem.tail _ hm)))
    have ha := hq a (List.Mem.head _)
    have hb := hq b (List.Mem.tail _ (List.Mem.head _))
    rw [List.range_succ_eq_map, List.map_cons, List.map_map, List.flatMap_cons]
    have e : ((fun i => 16 * (a :: b :: r).getD (2 * i) 0 + (a :: b :: r).getD (2 * i + 1) 0) ∘ Nat.succ) = fun i => 16 * r.getD (2 * i) 0 + r.getD (2 * i + 1) 0 := by
      funext i
      show 16 * (a :: b :: r).getD (2 * (i + 1)) 0 + (a :: b :: r).getD (2 * (i + 1) + 1) 0 = _
      rw [show 2 * (i + 1) = 2 * i + 1 + 1 by (first | lia | omega)]
      rfl
    rw [e, ih]
    show [(16 * a + b).fdiv 16, (16 * a + b).fmod 16] ++ r = _
    rw [Int.fdiv_eq_ediv_of_nonneg _ (by decide), Int.fmod_eq_emod_of_nonneg _ (by decide), show (16 * a + b) / 16 = a by (first | lia | omega), show (16 * a + b) % 16 = b by (first | lia | omega)]
    rfl
theorem packMark_in (sg : Bool) (u : Int) : 0 ≤ packMark sg u ∧ packMark sg u ≤ 15 := by unfold packMark; split <;> (try split) <;> decide
theorem pack_in {size : Nat} {sg : Bool} {u : Int} : ∀ q ∈ (figs 10 (2 * size - 1) u.natAbs).map Int.ofNat ++ [packMark sg u], 0 ≤ q ∧ q ≤ 15 := by
  intro q hq
  rcases List.mem_append.mp hq with h | h
  · have := figs_in (b := 10) (by decide) _ _ q h; (first | lia | omega)
  · rw [List.mem_singleton.mp h]; exact packMark_in sg u
theorem halves_pack {size : Nat} {sg : Bool} {u : Int} (h1 : 1 ≤ size) : halvesOf (packOct size sg u) = (figs 10 (2 * size - 1) u.natAbs).map Int.ofNat ++ [packMark sg u] := by
  have h := pairs_back size ((figs 10 (2 * size - 1) u.natAbs).map Int.ofNat ++ [packMark sg u]) (by rw [List.length_append, List.length_map, figs_length, List.length_singleton]; (first | lia | omega)) pack_in
  refine Eq.trans ?_ h
  unfold halvesOf packOct stepKs
  rw [List.map_map]
  congr 1
  refine List.map_congr_left fun i _ => ?_
  show 16 * _ + _ = _
  rw [show (0 + (i : Int) * 2).toNat = 2 * i by (first | lia | omega), show (0 + (i : Int) * 2 + 1).toNat = 2 * i + 1 by (first | lia | omega)]
theorem pack_bytes {size : Nat} {sg : Bool} {u : Int} : ∀ q ∈ packOct size sg u, 0 ≤ q ∧ q < 256 := packs_in rfl (figs_in (b := 10) (by decide) _ _) (packMark_in sg u)
theorem packOct_length {size : Nat} {sg : Bool} {u : Int} : (packOct size sg u).length = size := by rw [packOct, List.length_map, stepKs_length]
theorem packed_back (w : World) (x dx : Addr) (es : List DictEntry) (n : Nat) {cat us sgn : Str} {size d : Nat} {sg sep : Bool} (hS : ShapeIs es cat us size d sg sep sgn)
    (h1 : d ≤ 18) (hz : size = d / 2 + 1) (u : Int) (hu : Keeps d sg u) (tb : Tok) :
    Spec w (hd.heap_1 w.params) 248 [.ref x, .bytes (byteArr (packOct size sg u)) tb] [(x, instObj 111 dx), (dx, dictOf es n)] 4 (fun v new => new = [] ∧ ∃ t, v = .int u t) := by
  obtain ⟨hu1, hu2⟩ := hu
  have hlt : u.natAbs < 10 ^ (2 * size - 1) := Nat.lt_of_lt_of_le hu1 (Nat.pow_le_pow_right (by decide) (by (first | lia | omega)))
  have hfs := fs_val hlt
  refine spec_int ?_ (packed_units_spec w x dx es n hS (packOct size sg u) _ _ pack_bytes (by rw [packOct_length]; (first | lia | omega)) (halves_pack (by (first | lia | omega))) (figs_in (b := 10) (by decide) _ _) ?_ tb)
  · rw [hfs]; unfold packMark
    by_cases h : u < 0 <;> cases sg <;> simp [h] <;> (try (have := hu2 rfl)) <;> (first | lia | omega)
  · unfold packMark
    by_cases h : u < 0 <;> cases sg <;> simp [h]
def BinSize (d size : Nat) : Prop := (d ≤ 4 ∧ size = 2) ∨ (d ≤ 9 ∧ size = 4) ∨ (d ≤ 18 ∧ size = 8)
theorem BinSize.room {d size : Nat} (h : BinSize d size) : 1 ≤ size ∧ size ≤ 8 ∧ 10 ^ d < 128 * 256 ^ (size - 1) := by
  rcases h with ⟨h, rfl⟩ | ⟨h, rfl⟩ | ⟨h, rfl⟩
  · exact ⟨by decide, by decide, Nat.lt_of_le_of_lt (Nat.pow_le_pow_right (by decide) h) (by decide)⟩
  · exact ⟨by decide, by decide, Nat.lt_of_le_of_lt (Nat.pow_le_pow_right (by decide) h) (by decide)⟩
  · exact ⟨by decide, by decide, Nat.lt_of_le_of_lt (Nat.pow_le_pow_right (by decide) h) (by decide)⟩
theorem figs_head {b c n : Nat} : (figs b (c + 1) n)[0]? = some (n / b ^ c % b) := by
  rw [figs_lits, lits_snoc, List.reverse_append]; rfl
theorem binOct_length {size : Nat} {u : Int} : (binOct size u).length = size := by rw [binOct, List.length_map, figs_length]
theorem binary_back (w : World) (x dx : Addr) (es : List DictEntry) (n : Nat) {cat us sgn : Str} {size d : Nat} {sg sep : Bool} (hS : ShapeIs es cat us size d sg sep sgn)
    (hz : BinSize d size) (u : Int) (hu : Keeps d sg u) (tb : Tok) :
    Spec w (hd.heap_1 w.params) 255 [.ref x, .bytes (byteArr (binOct size u)) tb] [(x, instObj 111 dx), (dx, dictOf es n)] 2 (fun v new => new = [] ∧ ∃ t, v = .int u t) := by
  obtain ⟨z1, z2, z3⟩ := hz.room
  obtain ⟨hu1, hu2⟩ := hu
  obtain ⟨c, rfl⟩ : ∃ c, size = c + 1 := ⟨size - 1, by (first | lia | omega)⟩
  simp only [Nat.add_sub_cancel] at z3
  have hM : (256 : Nat) ^ (c + 1) = 256 * 256 ^ c := by rw [Nat.pow_succ, Nat.mul_comm]
  have hMi : (256 : Int) ^ (c + 1) = ((256 ^ (c + 1) : Nat) : Int) := by rw [Int.natCast_pow]; rfl
  have hp : 0 < 256 ^ c := Nat.pow_pos (by decide)
  generalize hB : (256 : Nat) ^ c = B at *
  obtain ⟨b1, b2⟩ := abs_lt hu1
  have z4 : ((10 ^ d : Nat) : Int) < 128 * (B : Int) := by exact_mod_cast z3
  have l1 := Int.lt_trans b2 z4
  have l2 := Int.lt_trans (Int.neg_lt_neg z4) b1
  clear b1 b2 z4 z3 hu1
  have hMc : ((256 * B : Nat) : Int) = 256 * (B : Int) := Int.natCast_mul 256 B
  have hmod : Int.fmod u ((256 : Int) ^ (c + 1)) = if u < 0 then u + ((256 * B : Nat) : Int) else u := by
    rw [hMi, hM, Int.fmod_eq_emod_of_nonneg _ (Int.natCast_nonneg _), hMc]
    split
    · rw [← Int.add_emod_right, Int.emod_eq_of_lt (by (first | lia | omega)) (by (first | lia | omega))]
    · exact Int.emod_eq_of_lt (by (first | lia | omega)) (by (first | lia | omega))
  have hval := ofFigs_figs (b := 256) (by decide) (c + 1) (Int.fmod u ((256 : Int) ^ (c + 1))).toNat
  have hhead : (binOct (c + 1) u)[(0 : Int).toNat]? = some ((((Int.fmod u ((256 : Int) ^ (c + 1))).toNat / B % 256 : Nat)) : Int) := by
    show (binOct (c + 1) u)[0]? = _
    rw [binOct, List.getElem?_map, figs_head, hB]; rfl
  refine spec_int ?_ (binary_units_spec w x dx es n hS (binOct (c + 1) u) _ bins_in (by rw [binOct_length]; (first | lia | omega)) hhead tb)
  rw [binOct_length]
  have hval2 : ofFigs 256 (binOct (c + 1) u) = (((Int.fmod u ((256 : Int) ^ (c + 1))).toNat % 256 ^ (c + 1) : Nat) : Int) := hval
  rw [hval2, hmod, hMi, hM, hMc]
  clear hval hval2 hhead hmod hMi hM hB z1 z2
  by_cases h : u < 0
  · have hsg : sg = true := by cases sg with | true => rfl | false => exact absurd (hu2 rfl) (Int.not_le.mpr h)
    obtain ⟨k, hk⟩ := Int.eq_ofNat_of_zero_le (show 0 ≤ u + 256 * (B : Int) by (first | lia | omega))
    have k1 : 128 * B ≤ k := by (first | lia | omega)
    have k2 : k < 256 * B := by (first | lia | omega)
    have e3 : k / B < 256 := (Nat.div_lt_iff_lt_mul hp).mpr k2
    have e2 : 127 < k / B := (Nat.le_div_iff_mul_le hp).mpr k1
    rw [if_pos h, hk, Int.toNat_natCast, Nat.mod_eq_of_lt k2, Nat.mod_eq_of_lt e3, if_pos ⟨hsg, Int.ofNat_lt.mpr e2⟩, ← hk, Int.add_sub_cancel]
  · obtain ⟨k, rfl⟩ := Int.eq_ofNat_of_zero_le (Int.not_lt.mp h)
    have k2 : k < 128 * B := by (first | lia | omega)
    have k3 : k < 256 * B := Nat.lt_of_lt_of_le k2 (Nat.mul_le_mul_right B (by decide))
    have e3 : k / B < 128 := (Nat.div_lt_iff_lt_mul hp).mpr k2
    rw [if_neg h, Int.toNat_natCast, Nat.mod_eq_of_lt k3, Nat.mod_eq_of_lt (Nat.lt_trans e3 (by decide)), if_neg (fun hh => absurd (Int.ofNat_lt.mp hh.2) (Nat.not_lt.mpr (Nat.le_of_lt_succ e3)))]
end
theorem wd18 : True := by
  k_with "mine call ref" => ((k_here; (with_reducible show wpAny _ _ (call (Value.ref 122) _) _ _ _); k_dflt (refine' Spec.use0 (unit_bound_spec _ _ _ _ _ _ _ ?c0q229 ?c1q229) ?k1 ?k2 ?k3 ?k4 ?k5 ?kK ?ks ?kd ?ku ?_; (case c0q229 => assumption); (case c1q229 => (first | lia | omega)); k_extra "my sides"; intro t' h' tk' F' N'; (try k_sweep); (try dsimp only))))
  k_with "mine call ref" => ((k_here; (with_reducible show wpAny _ _ (call (Value.ref 241) _) _ _ _); k_dflt (refine' Spec.use0 (display_back _ _ _ _ _ ?c0q230 ?c1q230 ?c2q230 ?c3q230 ?c4q230 _ ?c5q230 _) ?k1 ?k2 ?k3 ?k4 ?k5 ?kK ?ks ?kd ?ku ?_; (case c0q230 => assumption); (case c1q230 => assumption); (case c2q230 => (first | lia | omega)); (case c3q230 => (first | lia | omega)); (case c4q230 => assumption); (case c5q230 => assumption); k_extra "my sides"; intro t' h' tk' F' N'; (try k_sweep); (try dsimp only))))
  k_with "mine call ref" => ((k_here; (with_reducible show wpAny _ _ (call (Value.ref 248) _) _ _ _); k_dflt (refine' Spec.use0 (packed_back _ _ _ _ _ ?c0q231 ?c1q231 ?c2q231 _ ?c3q231 _) ?k1 ?k2 ?k3 ?k4 ?k5 ?kK ?ks ?kd ?ku ?_; (case c0q231 => assumption); (case c1q231 => (first | lia | omega)); (case c2q231 => assumption); (case c3q231 => assumption); k_extra "my sides"; intro t' h' tk' F' N'; (try k_sweep); (try dsimp only))))
  k_with "mine call ref" => ((k_here; (with_reducible show wpAny _ _ (call (Value.ref 255) _) _ _ _); k_dflt (refine' Spec.use0 (binary_back _ _ _ _ _ ?c0q232 ?c1q232 _ ?c2q232 _) ?k1 ?k2 ?k3 ?k4 ?k5 ?kK ?ks ?kd ?ku ?_; (case c0q232 => assumption); (case c1q232 => assumption); (case c2q232 => assumption); k_extra "my sides"; intro t' h' tk' F' N'; (try k_sweep); (try dsimp only))))
  trivial
section
theorem dispOct_length {d : Nat} {sg sep lead : Bool} {u : Int} : (dispOct d sg sep lead u).length = d + (if sg = true ∧ sep = true then 1 else 0) := by
  unfold dispOct
  cases sg <;> cases sep <;> cases lead <;> simp [codesOf_length, Nat.add_comm]
def SizeFits (cat us : Str) (d size : Nat) (sg sep : Bool) : Prop :=
  (us = Str.ofString "display" ∧ cat = Str.ofString "numeric" ∧ size = d + (if sg = true ∧ sep = true then 1 else 0)) ∨ (us = Str.ofString "packed" ∧ size = d / 2 + 1) ∨ ((us = Str.ofString "binary" ∨ us = Str.ofString "index") ∧ BinSize d size)
theorem units_in_spec (w : World) (x dx : Addr) (es : List DictEntry) (n : Nat) {cat us sgn : Str} {size d : Nat} {sg sep : Bool} (hS : ShapeIs es cat us size d sg sep sgn) (hno : getL "sign_place" es = some none)
    (h0 : 1 ≤ d) (h1 : d ≤ 18) (hz : SizeFits cat us d size sg sep) (u : Int) (hu : Keeps d sg u) (tb : Tok) :
    Spec w (hd.heap_1 w.params) 262 [.ref x, .bytes (byteArr (octs us size d sg sep (sgn == Str.ofString "leading") u)) tb] [(x, instObj 111 dx), (dx, dictOf es n)] 5 (fun v new => new = [] ∧ ∃ t, v = .int u t) := by
  have hS' := hS
  obtain ⟨_, ⟨tz, hsize⟩, ⟨tu, huse⟩, _, _, ⟨td, hdig⟩, hsg⟩ := hS'
  have hp : (10 : Int) ^ d = ((10 ^ d : Nat) : Int) := by rw [Int.natCast_pow]; rfl
  have hb1 : u < 10 ^ d := by have := hu.1; (first | lia | omega)
  have hb2 : -u < 10 ^ d := by have := hu.1; (first | lia | omega)
  clear hp
  have key : ∀ ns : List Int, ns.length = size → octs us size d sg sep (sgn == Str.ofString "leading") u = ns →
      Spec w (hd.heap_1 w.params) 262 [.ref x, .bytes (byteArr ns) tb] [(x, instObj 111 dx), (dx, dictOf es n)] 5 (fun v new => new = [] ∧ ∃ t, v = .int u t) := by
    intro ns hnl hns
    have hnl2 : ((ns.length : Nat) : Int) = (size : Int) := congrArg Nat.cast hnl
    unfold Spec
    intro dp un gd cn cs a ccd cl outer A₀ base h₀ L m mg mb mean news s Q E B F X N T hk hss hroom hun ret
    refine enterC (binds := [(Str.ofString "shape", .ref x), (Str.ofString "octets", .bytes (byteArr ns) tb)]) B F X N T rfl rfl hk hss (by k_is) (by k_is) (show dp < recursionLimit from Nat.lt_of_le_of_lt (Nat.le_add_right _ _) hroom) (BindsTo.of_eq rfl) (locs rfl) ret ?_ rfl rfl rfl (by decide)
    clear B F X N T ret hss
    intro g L' h₁ gs5 dr5 tk os5 F' N' B' X' T' l1
    (try dsimp only)
    k_fold
    have hsz : ns.length ≤ 20 := by
      rcases hz with ⟨_, _, hz⟩ | ⟨_, hz⟩ | ⟨_, hz⟩
      · rw [hnl, hz]; split <;> (first | lia | omega)
      · (first | lia | omega)
      · have := hz.room; (first | lia | omega)
    rcases hz with ⟨rfl, rfl, hz⟩ | ⟨rfl, hz⟩ | ⟨rfl | rfl, hz⟩
    · have e : ns = dispOct d sg sep (sgn == Str.ofString "leading") u := hns.symm.trans (if_pos rfl)
      subst e
      k_extra "my steps"
      all_goals first | exact Ends.plain (by k_asm) (by k_asm) (by kcj_all) ⟨rfl, _, rfl⟩ | (exfalso; (first | lia | omega))
    · have e : ns = packOct size sg u := hns.symm.trans ((if_neg (by decide)).trans (if_pos rfl))
      subst e
      k_extra "my steps"
      all_goals first | exact Ends.plain (by k_asm) (by k_asm) (by kcj_all) ⟨rfl, _, rfl⟩ | (exfalso; (first | lia | omega))
    · have e : ns = binOct size u := hns.symm.trans ((if_neg (by decide)).trans (if_neg (by decide)))
      subst e
      k_extra "my steps"
      all_goals first | exact Ends.plain (by k_asm) (by k_asm) (by kcj_all) ⟨rfl, _, rfl⟩ | (exfalso; (first | lia | omega))
    · have e : ns = binOct size u := hns.symm.trans ((if_neg (by decide)).trans (if_neg (by decide)))
      subst e
      k_extra "my steps"
      all_goals first | exact Ends.plain (by k_asm) (by k_asm) (by kcj_all) ⟨rfl, _, rfl⟩ | (exfalso; (first | lia | omega))
  refine key _ ?_ rfl
  rcases hz with ⟨rfl, rfl, hz⟩ | ⟨rfl, hz⟩ | ⟨rfl | rfl, hz⟩
  · rw [hz]; exact (congrArg List.length (if_pos rfl)).trans dispOct_length
  · exact (congrArg List.length ((if_neg (by decide)).trans (if_pos rfl))).trans packOct_length
  · exact (congrArg List.length ((if_neg (by decide)).trans (if_neg (by decide)))).trans binOct_length
  · exact (congrArg List.length ((if_neg (by decide)).trans (if_neg (by decide)))).trans binOct_length
end
section
def figText (c n : Nat) : Str := ⟨((figs 10 c n).map (48 + ·)).toArray⟩
theorem figText_length (c n : Nat) : (figText c n).length = c := by
  show (((figs 10 c n).map (48 + ·)).toArray).size = c
  rw [List.size_toArray, List.length_map, figs_length]
theorem digit_char : ∀ d, d < 10 → (Nat.digitChar d).toNat = 48 + d := by decide
theorem figs_zero : ∀ c, (figs 10 c 0).map (48 + ·) = List.replicate c 48
  | 0 => rfl
  | c + 1 => by rw [figs, Nat.zero_div, List.map_append, figs_zero c, List.replicate_succ']; rfl
theorem digits_len : ∀ (c n : Nat), n < 10 ^ (c + 1) → (Nat.toDigits 10 n).length ≤ c + 1
  | 0, n, h => by rw [Nat.toDigits_of_lt_base (by simpa using h)]; exact Nat.le_refl _
  | c + 1, n, h => by
    by_cases h1 : n < 10
    · rw [Nat.toDigits_of_lt_base h1]; simp
    · rw [Nat.toDigits_of_base_le (by decide) (by (first | lia | omega)), List.length_append, List.length_singleton]
      have := digits_len c (n / 10) ((Nat.div_lt_iff_lt_mul (by decide)).mpr (by rw [Nat.pow_succ] at h; exact h))
      (first | lia | omega)
theorem pad_eq : ∀ (c n : Nat), n < 10 ^ (c + 1) → List.replicate (c + 1 - (Nat.toDigits 10 n).length) 48 ++ (Nat.toDigits 10 n).map Char.toNat = (figs 10 (c + 1) n).map (48 + ·)
  | 0, n, h => by
    have h' : n < 10 := by simpa using h
    rw [Nat.toDigits_of_lt_base h']
    simp only [List.length_singleton, List.map_cons, List.map_nil, digit_char n h', figs]
    rw [Nat.mod_eq_of_lt h']
    rfl
  | c + 1, n, h => by
    by_cases h1 : n < 10
    · rw [Nat.toDigits_of_lt_base h1, figs, Nat.div_eq_of_lt h1, List.map_append, figs_zero, Nat.mod_eq_of_lt h1]
      simp [digit_char n h1]
    · have hd : n / 10 < 10 ^ (c + 1) := (Nat.div_lt_iff_lt_mul (by decide)).mpr (by rw [Nat.pow_succ] at h; exact h)
      have ih := pad_eq c (n / 10) hd
      rw [Nat.toDigits_of_base_le (by decide) (by (first | lia | omega)), figs, List.map_append, List.map_append, ← ih, List.length_append, List.length_singleton]
      rw [show c + 1 + 1 - ((Nat.toDigits 10 (n / 10)).length + 1) = c + 1 - (Nat.toDigits 10 (n / 10)).length by (first | lia | omega), List.append_assoc]
      simp only [List.map_cons, List.map_nil, digit_char _ (Nat.mod_lt n (by decide : 0 < 10))]
theorem text_cps (n : Nat) : (Str.ofString (toString (n : Int))).cps = ((Nat.toDigits 10 n).map Char.toNat).toArray := by
  have e : toString (n : Int) = Nat.repr n := rfl
  rw [e, Str.ofString_eq_toList]
  unfold Nat.repr
  rw [String.toList_ofList]
theorem text_length (n : Nat) : (Str.ofString (toString (n : Int))).length = (Nat.toDigits 10 n).length := by
  show (Str.ofString (toString (n : Int))).cps.size = _
  rw [text_cps]; simp
theorem pad_text {c n : Nat} (h1 : 1 ≤ c) (h : n < 10 ^ c) : Txt.mul (Str.ofString "0") ((c : Int) - ((Str.ofString (toString (n : Int))).length : Nat)) ++ Str.ofString (toString (n : Int)) = figText c n := by
  obtain ⟨k, rfl⟩ : ∃ k, c = k + 1 := ⟨c - 1, by (first | lia | omega)⟩
  have hl := digits_len k n h
  have e0 : Str.ofString "0" = ⟨#[48]⟩ := by decide
  have e : ∀ a b : Str, a.cps.toList = b.cps.toList → a = b := fun a b h => congrArg Str.mk (Array.toList_inj.mp h)
  apply e
  rw [KT.app_list, e0, mul_one_list, text_cps, text_length]
  show List.replicate _ 48 ++ (Nat.toDigits 10 n).map Char.toNat = (figs 10 (k + 1) n).map (48 + ·)
  rw [← pad_eq k n h, show (((k + 1 : Nat) : Int) - (((Nat.toDigits 10 n).length : Nat) : Int)).toNat = k + 1 - (Nat.toDigits 10 n).length by (first | lia | omega)]
theorem text_le {c n : Nat} (h1 : 1 ≤ c) (h : n < 10 ^ c) : (Str.ofString (toString (n : Int))).length ≤ c := by
  obtain ⟨k, rfl⟩ : ∃ k, c = k + 1 := ⟨c - 1, by (first | lia | omega)⟩
  rw [text_length]; exact digits_len k n h
end
section
theorem law_kept_spec (w : World) (d : Nat) (td tu : Tok) (sg : Bool) (u : Int) (h1 : d ≤ 18) :
    Spec w (hd.heap_1 w.params) 530 [.int d td, .bool sg, .int u tu] [] 1 (fun v new => new = [] ∧ ∃ t, v = .int (kept d sg u) t) := by
  unfold Spec
  intro dp un gd cn cs a ccd cl outer A₀ base h₀ L m mg mb mean news s Q E B F X N T hk hs hroom hun ret
  refine enterC (binds := [(Str.ofString "digits", .int d td), (Str.ofString "is_signed", .bool sg), (Str.ofString "units", .int u tu)]) B F X N T rfl rfl hk hs (by k_is) (by k_is) (show dp < recursionLimit from Nat.lt_of_le_of_lt (Nat.le_add_right _ _) hroom) (BindsTo.of_eq rfl) (locs rfl) ret ?_ rfl rfl rfl (by decide)
  clear B F X N T ret hs
  intro g L' h₁ gs5 dr5 tk os5 F' N' B' X' T' l1
  (try dsimp only)
  show wpAny _ _ _ _ _ _
  k_fold
  k_extra "my steps"
  all_goals (refine Ends.plain (by k_asm) (by k_asm) (by kcj_all) ⟨rfl, ?_⟩)
  · exact ⟨_, intVal (kept_neg (by assumption) (by assumption))⟩
  · exact ⟨_, intVal (kept_plain (by assumption))⟩
  · exact ⟨_, intVal (kept_pos (by assumption))⟩
end
section
theorem strVal {x y : Str} {t : Tok} (e : x = y) : Value.str x t = Value.str y t := by rw [e]
theorem law_figures_spec (w : World) (c : Nat) (tc tu : Tok) (u : Int) (h0 : 0 ≤ u) (h1 : c ≤ 20) (h2 : 1 ≤ c) (h3 : u.toNat < 10 ^ c) :
    Spec w (hd.heap_1 w.params) 523 [.int u tu, .int c tc] [] 1 (fun v new => new = [] ∧ ∃ t, v = .str (figText c u.toNat) t) := by
  have f0 : ((u.toNat : Nat) : Int) = u := Int.toNat_of_nonneg h0
  have f1 : u.fmod (10 ^ (c : Int).toNat) = u := by
    have : (10 : Int) ^ c = ((10 ^ c : Nat) : Int) := by rw [Int.natCast_pow]; rfl
    rw [Int.toNat_natCast, this, Int.fmod_eq_emod_of_nonneg _ (by (first | lia | omega)), Int.emod_eq_of_lt h0 (by (first | lia | omega))]
  have f2 : u < 10 ^ 20 := by
    have := Nat.lt_of_lt_of_le h3 (Nat.pow_le_pow_right (n := 10) (by decide) h1)
    (first | lia | omega)
  have f4 : Txt.mul (Str.ofString "0") ((c : Int) - ((Str.ofString (toString (u.fmod (10 ^ (c : Int).toNat)))).length : Nat)) ++ Str.ofString (toString (u.fmod (10 ^ (c : Int).toNat))) = figText c u.toNat := by
    rw [f1, ← f0, Int.toNat_natCast]; exact pad_text h2 h3
  have f3 : (Str.ofString (toString (u.fmod (10 ^ (c : Int).toNat)))).length ≤ c := by
    rw [f1, ← f0]; exact text_le h2 h3
  unfold Spec
  intro dp un gd cn cs a ccd cl outer A₀ base h₀ L m mg mb mean news s Q E B F X N T hk hs hroom hun ret
  refine enterC (binds := [(Str.ofString "number", .int u tu), (Str.ofString "count", .int c tc)]) B F X N T rfl rfl hk hs (by k_is) (by k_is) (show dp < recursionLimit from Nat.lt_of_le_of_lt (Nat.le_add_right _ _) hroom) (BindsTo.of_eq rfl) (locs rfl) ret ?_ rfl rfl rfl (by decide)
  clear B F X N T ret hs
  intro g L' h₁ gs5 dr5 tk os5 F' N' B' X' T' l1
  (try dsimp only)
  show wpAny _ _ _ _ _ _
  k_fold
  k_extra "my steps"
  exact Ends.plain (by k_asm) (by k_asm) (by kcj_all) ⟨rfl, _, strVal f4⟩
theorem law_figures_int (w : World) (c : Int) (tc tu : Tok) (u : Int) (h0 : 0 ≤ u) (h1 : c ≤ 20) (h2 : 1 ≤ c) (h3 : u.toNat < 10 ^ c.toNat) :
    Spec w (hd.heap_1 w.params) 523 [.int u tu, .int c tc] [] 1 (fun v new => new = [] ∧ ∃ t, v = .str (figText c.toNat u.toNat) t) := by
  have h := law_figures_spec w c.toNat tc tu u h0 (by (first | lia | omega)) (by (first | lia | omega)) h3
  rw [Int.toNat_of_nonneg (by (first | lia | omega) : 0 ≤ c)] at h
  exact h
end
theorem wd19 : True := by
  k_with "mine call ref" => ((k_here; (with_reducible show wpAny _ _ (call (Value.ref 530) _) _ _ _); k_dflt (refine' Spec.use0 (law_kept_spec _ _ _ _ _ _ ?c0q233) ?k1 ?k2 ?k3 ?k4 ?k5 ?kK ?ks ?kd ?ku ?_; (case c0q233 => (first | lia | omega)); k_extra "my sides"; intro t' h' tk' F' N'; (try k_sweep); (try dsimp only))))
  k_with "mine call ref" => ((k_here; (with_reducible show wpAny _ _ (call (Value.ref 523) _) _ _ _); k_dflt (refine' Spec.use0 (law_figures_spec _ _ _ _ _ ?c0q234 ?c1q234 ?c2q234 ?c3q234) ?k1 ?k2 ?k3 ?k4 ?k5 ?kK ?ks ?kd ?ku ?_; (case c0q234 => (first | (first | lia | omega) | (split <;> (first | lia | omega)))); (case c1q234 => (first | lia | omega)); (case c2q234 => (first | lia | omega)); (case c3q234 => (k_extra "my figures")); k_extra "my sides"; intro t' h' tk' F' N'; (try k_sweep); (try dsimp only))))
  trivial
section
theorem wd20 : True := by
  k_with "my figures" => (assumption)
  k_with "mine eval ListComp" => ((k_here; k_dflt (refine ListComp_text (F₀ := by k_asm) (by with_unfolding_all rfl) (by decide) (by rfl) (by decide) (by rfl) ?_ (fun _ => rfl))))
  k_with "my bytes" => (assumption)
  trivial
theorem figText_ints (c n : Nat) : strInts (figText c n) = codesOf c n := by
  unfold strInts figText codesOf
  rw [List.map_map, List.map_map]
  refine List.map_congr_left fun k _ => ?_
  show ((48 + k : Nat) : Int) = 48 + (k : Int)
  (first | lia | omega)
theorem codes_low {d n : Nat} : ∀ q ∈ codesOf d n, q < 128 := by
  intro q hq
  obtain ⟨k, hk, rfl⟩ := List.mem_map.mp hq
  have := figs_in (b := 10) (by decide) d n k hk
  (first | lia | omega)
theorem kept_keeps (d : Nat) (sg : Bool) (u : Int) : Keeps d sg (kept d sg u) := by
  have hp : 0 < 10 ^ d := Nat.pow_pos (by decide)
  have := Nat.mod_lt u.natAbs hp
  unfold Keeps kept
  split
  · rename_i h; exact ⟨by (first | lia | omega), fun e => by rw [e] at h; exact absurd h.2 Bool.false_ne_true⟩
  · exact ⟨by (first | lia | omega), fun _ => by (first | lia | omega)⟩
theorem law_laid_plain (w : World) (ts td tz tu : Tok) (d size : Nat) (u : Int) (h0 : 1 ≤ d) (h1 : d ≤ 18) :
    Spec w (hd.heap_1 w.params) 535 [.str (Str.ofString "trail") ts, .int size tz, .int d td, .bool false, .int u tu] [] 3 (fun v new => new = [] ∧ ∃ t, v = .bytes (byteArr (dispOct d false false false (kept d false u))) t) := by
  obtain ⟨hk1, hk2⟩ := kept_keeps d false u
  rw [← absNat] at hk1
  unfold Spec
  intro dp un gd cn cs a ccd cl outer A₀ base h₀ L m mg mb mean news s Q E B F X N T hk hs hroom hun ret
  refine enterCC (binds := [(Str.ofString "kind", .str (Str.ofString "trail") ts), (Str.ofString "size", .int size tz), (Str.ofString "digits", .int d td), (Str.ofString "is_signed", .bool false), (Str.ofString "units", .int u tu)]) B F X N T rfl rfl hk hs (by k_is) (by k_is) (show dp < recursionLimit from Nat.lt_of_le_of_lt (Nat.le_add_right _ _) hroom) (BindsTo.of_eq rfl) rfl (by decide +kernel) ret ?_ rfl rfl rfl
  clear B F X N T ret hs
  intro g L' h₁ gs5 dr5 tk os5 cells F' N' Y' B' X' T' l1
  (try k_lt l1); k_cells Y'; (try simp only [List.cons_append, List.nil_append] at N')
  (try dsimp only)
  show wpAny _ _ _ _ _ _
  k_fold
  k_extra "my steps"
  all_goals (
    rename Fr _ _ _ _ => hF
    rename News _ _ _ _ => hN
    have hlen : (codesOf d (if kept d false u < 0 then -kept d false u else kept d false u).toNat).length = d := codesOf_length _ _
    have hrg : ∀ q ∈ codesOf d (if kept d false u < 0 then -kept d false u else kept d false u).toNat, 0 ≤ q ∧ q < 256 := codes_in
    refine TextSrc.intro rfl hF hN (figText_ints _ _) (by (first | lia | omega)) codes_low (fun k => k) ?_ ?_
    · intro s₂ hs₂ k t I oI C oC D m₂ ys h tk E' hk hC hx F₂ N₂ off ne hMk
      obtain ⟨h9, rfl⟩ := hs₂
      clear hF hN
      simp only [LCg.Off3, and_true] at off
      (try dsimp only)
      show wpAny _ _ _ _ _ _
      k_fold
      k_extra "my steps"
    · intro s₂ hs₂ ys hy D h tk F₂ N₂ off
      obtain ⟨h9, rfl⟩ := hs₂
      rw [List.map_id'] at hy
      clear hF hN
      (try dsimp only)
      (try k_fold)
      k_extra "my steps"
      exact Ends.plain (by k_asm) (by k_asm) (by kcj_all) ⟨rfl, _, bytesVal (by rw [absNat]; rfl)⟩)
end
theorem wd21 : True := by
  k_with_none
  k_with "my fold" => (((first | (with_reducible show wpAny _ _ (exec (PySem.Stmt.Assign _ _ _) _) _ _ _) | (with_reducible show wpAny _ _ (exec (PySem.Stmt.Return _ _) _) _ _ _) | (with_reducible show wpAny _ _ (exec (PySem.Stmt.If _ _ _ _) _) _ _ _) | (with_reducible show wpAny _ _ (exec (PySem.Stmt.Expr _ _) _) _ _ _) | (with_reducible show wpAny _ _ (exec (PySem.Stmt.AugAssign _ _ _ _) _) _ _ _) | (with_reducible show wpAny _ _ (eval (PySem.Expr.BinOp _ _ _ _) _) _ _ _) | (with_reducible show wpAny _ _ (eval (PySem.Expr.Call _ _ _ _) _) _ _ _)); (fail_if_success (fail_if_success k_fold)); refine (let qk := _; keepQ qk ?_)))
  k_with "my get" => (assumption)
  k_with "mine call type:range" => ((k_here; (rename Fr _ _ _ _ => F'); (rename News _ _ _ _ => N'); (with_unfolding_all refine range1_rows F' N' ?_; intro _ _ _ _ _ _ _ _ _)))
  k_with "my steps" => (repeat' (first | ((fail_if_success (fail_if_success k_unfold)); (try dsimp only); refine (?_ : wpAny _ _ _ _ _ _)) | (k_unfold; (try dsimp only)) | k_extra "my fold" | ((fail_if_success (with_reducible show wpAny _ _ (pyIter _) (fun it s₂ => LoopAtV _ _ _ _ _ _ _ _ _ it s₂) _ _)); (fail_if_success (with_reducible show wpAny _ _ (pyIter _) (fun it s₂ => PairAt3 _ _ _ _ _ _ _ _ _ _ it s₂) _ _)); (fail_if_success (with_reducible show LoopStep3 _ _ _ _ _ _ _ _ _ _)); (fail_if_success (with_reducible show InvEndN _ _ _ _ _ _ _)); (fail_if_success (with_reducible show Ends _ _ _ _ _ _)); first | walk1 | (dsimp only; walk1) | (dsimp only; k_unfold; (try dsimp only)))))
  k_with "my plain steps" => (repeat' (first | ((fail_if_success (fail_if_success k_unfold)); (try dsimp only); refine (?_ : wpAny _ _ _ _ _ _)) | (k_unfold; (try dsimp only)) | ((fail_if_success (with_reducible show wpAny _ _ (pyIter _) (fun it s₂ => LoopAtV _ _ _ _ _ _ _ _ _ it s₂) _ _)); (fail_if_success (with_reducible show wpAny _ _ (pyIter _) (fun it s₂ => PairAt3 _ _ _ _ _ _ _ _ _ _ it s₂) _ _)); (fail_if_success (with_reducible show LoopStep3 _ _ _ _ _ _ _ _ _ _)); (fail_if_success (with_reducible show InvEndN _ _ _ _ _ _ _)); (fail_if_success (with_reducible show Ends _ _ _ _ _ _)); first | walk1 | (dsimp only; walk1) | (dsimp only; k_unfold; (try dsimp only)))))
  k_with "my bytes" => (first | exact all48 (by assumption) | (refine all_cons (by decide) ?_; k_extra "my bytes") | (refine all_snoc (by decide) ?_; k_extra "my bytes"))
  k_with "my size" => (first | (first | lia | omega) | ((try simp only [List.length_map, List.length_cons, List.length_append, List.length_nil, List.length_set, List.length_reverse, lits_length, figs_length, stepKs_length]); (first | lia | omega)))
  k_with "mine call type:bytes" => ((k_here; (with_reducible show wpAny _ _ (call (Value.type "bytes") [Value.ref _]) _ _ _); k_dflt (refine' bytesOf_K ?Fq245 ?Nq245 ?mq245 ?iq245 ?rq245 ?zq245 ?hq245 ?_; (case Fq245 => k_asm); (case Nq245 => k_asm); (case mq245 => k_mem); (case iq245 => assumption); (case rq245 => k_extra "my bytes"); (case zq245 => k_extra "my size"); (case hq245 => exact rfl); k_whole); intro h' t' k' F' N'; (try k_sweep)))
  k_with "my bytes" => ((refine all_set (u8_in _) ?_; k_extra "my bytes"))
  k_with "my byte at" => ((refine fig_at (by assumption) ?_; k_extra "my size"))
  k_with "mine subscriptTail" => ((k_here; (with_reducible show wpAny _ _ (subscriptTail _ _ (Value.bytes _ _) (Value.int _ _)) _ _ _); k_dflt (refine' bytesItem_K ?aq248 ?bq248 ?_ ?hsq248 ?htq248; (case aq248 => k_extra "my byte at"); (case bq248 => decide); (case hsq248 => with_unfolding_all rfl); (case htq248 => intro _; with_unfolding_all rfl))))
  k_with "my index" => (first | (first | lia | omega) | decide | assumption)
  k_with "mine compareOp In" => ((k_here; (with_reducible show wpAny _ _ (compareOp CmpOp.In (Value.int _ _) (Value.bytes _ _)) _ _ _); k_dflt (refine' in_bytes ?aq250 ?bq250 ?_; (case aq250 => (first | lia | omega)); (case bq250 => (first | lia | omega)))))
  k_with "mine getMethod" => ((k_here; (with_reducible show wpAny _ _ (getMethod (Value.bytes _ _) "index" _) _ _ _); refine index_method ?_))
  k_with "mine call builtin:bytes.index" => ((k_here; (with_reducible show wpAny _ _ (call (Value.builtin "bytes.index") [Value.bytes _ _, Value.int _ _]) _ _ _); k_dflt (refine' bytes_index _ ?aq252 ?bq252 ?cq252 ?dq252 ?_; (case aq252 => (first | lia | omega)); (case bq252 => (first | lia | omega)); (case cq252 => decide); (case dq252 => assumption)); intro _ _; (try dsimp only)))
  k_with "mine subscriptTail" => ((k_here; (with_reducible show wpAny _ _ (subscriptTail _ _ (Value.bytes (byteArr _) _) (Value.int _ _)) _ _ _); k_dflt (refine' bytesInt_K ?aq253 ?bq253 ?rq253 ?zq253 ?_ ?hsq253 ?htq253; (case aq253 => (first | lia | omega)); (case bq253 => assumption); (case rq253 => first | assumption | k_extra "my bytes"); (case zq253 => k_extra "my size"); (case hsq253 => with_unfolding_all rfl); (case htq253 => intro _; with_unfolding_all rfl)); intro _ _; (try dsimp only)))
  k_with "my pick" => ((with_reducible first | exact kmk_upto (by l_ints) (by (first | lia | omega)) | exact kmk_from (by l_ints) (by (first | lia | omega)) | exact kmk_upto_neg (by l_ints) (by (first | lia | omega)) | exact kmk_from_neg (by l_ints) (by (first | lia | omega))))
  k_with "mine subscriptTail Name Slice ref ref" => ((k_here; (with_reducible show wpAny _ _ (subscriptTail _ (PySem.Expr.Slice _ _ none _) (Value.ref _) (Value.ref _)) _ _ _); k_dflt (refine' kmk_slice_ints ?Fq255 ?Nq255 ?lq255 ?pq255 ?qq255 ?iq255 ?mq255 ?cq255 ?_ ?sq255 ?tq255 ?zq255; (case Fq255 => k_asm); (case Nq255 => k_asm); (case lq255 => kmk_list); (case pq255 => kmk_part); (case qq255 => kmk_part); (case iq255 => l_ints); (case mq255 => k_extra "my pick"); (case cq255 => kmk_len); (case sq255 => with_unfolding_all rfl); (case tq255 => kmk_pure); (case zq255 => kmk_size)); intro D' ws' h' F' N' l1 hI' hC' hL'; (try k_lt l1); (try k_sweep)))
  k_with "my ints" => (first | l_ints | exact IntsAre.cons _ _ IntsAre.nil | exact IntsAre.cons _ _ (IntsAre.cons _ _ IntsAre.nil))
  k_with "mine binaryOp Add ref ref" => ((k_here; (with_reducible show wpAny _ _ (binaryOp _ (Value.ref _) (Value.ref _)) _ _ _); k_dflt (refine' kmk_add_ints ?Fq257 ?Nq257 ?aq257 ?bq257 ?iq257 ?jq257 ?_ ?zq257; (case Fq257 => k_asm); (case Nq257 => k_asm); (case aq257 => kmk_list); (case bq257 => kmk_list); (case iq257 => k_extra "my ints"); (case jq257 => k_extra "my ints"); (case zq257 => first | ((simp only [sizeLine_eq]); k_extra "my size") | kmk_sum)); intro D' ws' h' F' N' l1 hI'; (try k_lt l1); (try k_sweep)))
  k_with "mine call builtin:len" => ((k_here; (with_reducible show wpAny _ _ (call (Value.builtin "len") [Value.bytes (byteArr _) _]) _ _ _); k_dflt (refine' len_byteArr ?zq258 ?_; (case zq258 => k_extra "my size")); intro _ _; (try dsimp only)))
  k_with "mine call builtin:ord" => ((k_here; (with_reducible show wpAny _ _ (call (Value.builtin "ord") [Value.str _ _]) _ _ _); refine ord_of_char ?_; (try dsimp only)))
  k_with "my text slice" => (((with_reducible rename Fr _ _ _ _ => F'); (with_reducible rename News _ _ _ _ => N'); first | ((with_reducible show wpAny _ _ (subscriptTail _ (Expr.Slice none (some _) none _) _ _) _ _ _); (refine slice_strN_ns_len (hsz := ?hszq260) (s := ⟨_, _, _, _, _⟩) F' N' ?_); (case hszq260 => rw [sizeLine_eq]; (first | lia | omega))) | ((with_reducible show wpAny _ _ (subscriptTail _ (Expr.Slice (some _) none none _) _ _) _ _ _); (refine slice_strN_sn_len (hsz := ?hszq260) (s := ⟨_, _, _, _, _⟩) F' N' ?_); (case hszq260 => rw [sizeLine_eq]; (first | lia | omega)))))
  k_with "my units" => (((try simp only [units_in1, units_deeper, Around.mark_units]); (try dsimp only [ktrTop]); (first | lia | omega)))
  k_with "my tail" => ((first | assumption | (refine' And.right ?_; first | assumption | (refine' And.right ?_; first | assumption | (refine' And.right ?_; first | assumption | (refine' And.right ?_; first | assumption | (refine' And.right ?_; first | assumption | (refine' And.right ?_; first | assumption | (refine' And.right ?_; first | assumption | (refine' And.right ?_; first | assumption | (refine' And.right ?_; assumption)))))))))))
  k_with "my conj" => (first | k_extra "my tail" | (refine' And.left ?_; k_extra "my tail") | (refine' And.left ?_; refine' And.left ?_; k_extra "my tail") | (refine' And.right ?_; refine' And.left ?_; k_extra "my tail"))
  k_with "my ne" => ((refine neN ?_; (try dsimp only); first | (refine' Nat.ne_of_lt ?_; k_extra "my conj") | (refine' Nat.ne_of_gt ?_; k_extra "my conj") | k_extra "my conj" | (refine' Ne.symm ?_; k_extra "my conj") | (first | lia | omega)))
  k_with "my sides" => (((case k1 => k_asm); (case k2 => k_asm); (case k3 => k_asm); (case k4 => k_asm); (case k5 => k_asm); (case kK => first | assumption | exact rfl); (case ks => kcj_all); (case kd => first | ((try simp only [depth_mark, depth_under_make, depth_under_kw, depth_in1, depth_deeper]); (try dsimp only [ktrTop]); first | (refine' room3 ?hhq265 ?llq265; (case hhq265 => assumption); (case llq265 => exact Nat.le_of_ble_eq_true rfl)) | (first | lia | omega)) | (with_unfolding_all exact Nat.le_of_ble_eq_true rfl)); (case ku => first | ((try simp only [units_in1, units_deeper, Around.mark_units]); (try dsimp only [ktrTop]); first | (refine' room3 ?hhq265 ?llq265; (case hhq265 => assumption); (case llq265 => exact Nat.le_of_ble_eq_true rfl)) | (first | lia | omega)) | (with_unfolding_all exact Nat.le_of_ble_eq_true rfl))))
  k_with "mine call ref" => ((k_here; (with_reducible show wpAny _ _ (call (Value.ref 530) _) _ _ _); k_dflt (refine' Spec.use0 (law_kept_spec _ _ _ _ _ _ ?c0q266) ?k1 ?k2 ?k3 ?k4 ?k5 ?kK ?ks ?kd ?ku ?_; (case c0q266 => (first | lia | omega)); k_extra "my sides"; intro t' h' tk' F' N'; (try k_sweep); (try dsimp only))))
  k_with "mine call ref" => ((k_here; (with_reducible show wpAny _ _ (call (Value.ref 523) _) _ _ _); k_dflt (refine' Spec.use0 (law_figures_spec _ _ _ _ _ ?c0q267 ?c1q267 ?c2q267 ?c3q267) ?k1 ?k2 ?k3 ?k4 ?k5 ?kK ?ks ?kd ?ku ?_; (case c0q267 => (first | (first | lia | omega) | (split <;> (first | lia | omega)))); (case c1q267 => (first | lia | omega)); (case c2q267 => (first | lia | omega)); (case c3q267 => (k_extra "my figures")); k_extra "my sides"; intro t' h' tk' F' N'; (try k_sweep); (try dsimp only))))
  trivial
section
theorem wd22 : True := by
  k_with "my figures" => (assumption)
  k_with "mine eval ListComp" => ((k_here; k_dflt (refine ListComp_text (F₀ := by k_asm) (by with_unfolding_all rfl) (by decide) (by rfl) (by decide) (by rfl) ?_ (fun _ => rfl))))
  k_with "my bytes" => (assumption)
  trivial
theorem strInts_append (a b : Str) : strInts (a ++ b) = strInts a ++ strInts b := by
  unfold strInts
  rw [KT.app_list, List.map_append]
theorem apart_t {d : Nat} {left : Int} {z : Str} (hs : strInts z = [signAt left]) : strInts (figText d (if left < 0 then -left else left).toNat ++ z) = dispOct d true true false left := by
  rw [strInts_append, figText_ints, hs, absNat]; rfl
theorem apart_l {d : Nat} {left : Int} {z : Str} (hs : strInts z = [signAt left]) : strInts (z ++ figText d (if left < 0 then -left else left).toNat) = dispOct d true true true left := by
  rw [strInts_append, figText_ints, hs, absNat]; rfl
theorem minus_sign {left : Int} (h : left < 0) : strInts (Str.ofString "-") = [signAt left] := by
  rw [signAt, if_pos h]; decide
theorem plus_sign {left : Int} (h : ¬ left < 0) : strInts (Str.ofString "+") = [signAt left] := by
  rw [signAt, if_neg h]; decide
theorem apart_low {d : Nat} {lead : Bool} {left : Int} : ∀ q ∈ dispOct d true true lead left, 0 ≤ q ∧ q < 128 := by
  have e : dispOct d true true lead left = if lead = true then [signAt left] ++ codesOf d left.natAbs else codesOf d left.natAbs ++ [signAt left] := rfl
  have hs : 0 ≤ signAt left ∧ signAt left < 128 := by unfold signAt; split <;> (first | lia | omega)
  intro q hq
  rw [e] at hq
  have : q = signAt left ∨ q ∈ codesOf d left.natAbs := by
    split at hq <;> simpa [or_comm] using hq
  rcases this with rfl | h
  · exact hs
  · exact ⟨(codes_in q h).1, codes_low q h⟩
theorem law_laid_ta (w : World) (ts td tz tu : Tok) (d size : Nat) (u : Int) (h0 : 1 ≤ d) (h1 : d ≤ 18) :
    Spec w (hd.heap_1 w.params) 535 [.str (Str.ofString "trail apart") ts, .int size tz, .int d td, .bool true, .int u tu] [] 3 (fun v new => new = [] ∧ ∃ t, v = .bytes (byteArr (dispOct d true true false (kept d true u))) t) := by
  obtain ⟨hk1, hk2⟩ := kept_keeps d true u
  rw [← absNat] at hk1
  have hft : (figText d (if kept d true u < 0 then -kept d true u else kept d true u).toNat).length ≤ 18 := by rw [figText_length]; exact h1
  unfold Spec
  intro dp un gd cn cs a ccd cl outer A₀ base h₀ L m mg mb mean news s Q E B F X N T hk hs hroom hun ret
  refine enterCC (binds := [(Str.ofString "kind", .str (Str.ofString "trail apart") ts), (Str.ofString "size", .int size tz), (Str.ofString "digits", .int d td), (Str.ofString "is_signed", .bool true), (Str.ofString "units", .int u tu)]) B F X N T rfl rfl hk hs (by k_is) (by k_is) (show dp < recursionLimit from Nat.lt_of_le_of_lt (Nat.le_add_right _ _) hroom) (BindsTo.of_eq rfl) rfl (by decide +kernel) ret ?_ rfl rfl rfl
  clear B F X N T ret hs
  intro g L' h₁ gs5 dr5 tk os5 cells F' N' Y' B' X' T' l1
  (try k_lt l1); k_cells Y'; (try simp only [List.cons_append, List.nil_append] at N')
  (try dsimp only)
  show wpAny _ _ _ _ _ _
  k_fold
  k_extra "my steps"
  all_goals (
    rename Fr _ _ _ _ => hF
    rename News _ _ _ _ => hN
    have hlen : (dispOct d true true false (kept d true u)).length ≤ 19 := by rw [dispOct_length, if_pos ⟨rfl, rfl⟩]; (first | lia | omega)
    have hrg : ∀ q ∈ dispOct d true true false (kept d true u), 0 ≤ q ∧ q < 256 := fun q hq => ⟨(apart_low q hq).1, by have := (apart_low q hq).2; (first | lia | omega)⟩
    refine TextSrc.intro rfl hF hN (apart_t (by first | exact minus_sign (by assumption) | exact plus_sign (by assumption))) (by (first | lia | omega)) (fun q hq => (apart_low q hq).2) (fun k => k) ?_ ?_
    · intro s₂ hs₂ k t I oI C oC D m₂ ys h tk E' hk hC hx F₂ N₂ off ne hMk
      obtain ⟨h9, rfl⟩ := hs₂
      clear hF hN
      simp only [LCg.Off3, and_true] at off
      (try dsimp only)
      show wpAny _ _ _ _ _ _
      k_fold
      k_extra "my steps"
    · intro s₂ hs₂ ys hy D h tk F₂ N₂ off
      obtain ⟨h9, rfl⟩ := hs₂
      rw [List.map_id'] at hy
      clear hF hN
      (try dsimp only)
      (try k_fold)
      k_extra "my steps"
      exact Ends.plain (by k_asm) (by k_asm) (by kcj_all) ⟨rfl, _, rfl⟩)
theorem law_laid_la (w : World) (ts td tz tu : Tok) (d size : Nat) (u : Int) (h0 : 1 ≤ d) (h1 : d ≤ 18) :
    Spec w (hd.heap_1 w.params) 535 [.str (Str.ofString "lead apart") ts, .int size tz, .int d td, .bool true, .int u tu] [] 3 (fun v new => new = [] ∧ ∃ t, v = .bytes (byteArr (dispOct d true true true (kept d true u))) t) := by
  obtain ⟨hk1, hk2⟩ := kept_keeps d true u
  rw [← absNat] at hk1
  have hft : (figText d (if kept d true u < 0 then -kept d true u else kept d true u).toNat).length ≤ 18 := by rw [figText_length]; exact h1
  unfold Spec
  intro dp un gd cn cs a ccd cl outer A₀ base h₀ L m mg mb mean news s Q E B F X N T hk hs hroom hun ret
  refine enterCC (binds := [(Str.ofString "kind", .str (Str.ofString "lead apart") ts), (Str.ofString "size", .int size tz), (Str.ofString "digits", .int d td), (Str.ofString "is_signed", .bool true), (Str.ofString "units", .int u tu)]) B F X N T rfl rfl hk hs (by k_is) (by k_is) (show dp < recursionLimit from Nat.lt_of_le_of_lt (Nat.le_add_right _ _) hroom) (BindsTo.of_eq rfl) rfl (by decide +kernel) ret ?_ rfl rfl rfl
  clear B F X N T ret hs
  intro g L' h₁ gs5 dr5 tk os5 cells F' N' Y' B' X' T' l1
  (try k_lt l1); k_cells Y'; (try simp only [List.cons_append, List.nil_append] at N')
  (try dsimp only)
  show wpAny _ _ _ _ _ _
  k_fold
  k_extra "my steps"
  all_goals (
    rename Fr _ _ _ _ => hF
    rename News _ _ _ _ => hN
    have hlen : (dispOct d true true true (kept d true u)).length ≤ 19 := by rw [dispOct_length, if_pos ⟨rfl, rfl⟩]; (first | lia | omega)
    have hrg : ∀ q ∈ dispOct d true true true (kept d true u), 0 ≤ q ∧ q < 256 := fun q hq => ⟨(apart_low q hq).1, by have := (apart_low q hq).2; (first | lia | omega)⟩
    refine TextSrc.intro rfl hF hN (apart_l (by first | exact minus_sign (by assumption) | exact plus_sign (by assumption))) (by (first | lia | omega)) (fun q hq => (apart_low q hq).2) (fun k => k) ?_ ?_
    · intro s₂ hs₂ k t I oI C oC D m₂ ys h tk E' hk hC hx F₂ N₂ off ne hMk
      obtain ⟨h9, rfl⟩ := hs₂
      clear hF hN
      simp only [LCg.Off3, and_true] at off
      (try dsimp only)
      show wpAny _ _ _ _ _ _
      k_fold
      k_extra "my steps"
    · intro s₂ hs₂ ys hy D h tk F₂ N₂ off
      obtain ⟨h9, rfl⟩ := hs₂
      rw [List.map_id'] at hy
      clear hF hN
      (try dsimp only)
      (try k_fold)
      k_extra "my steps"
      exact Ends.plain (by k_asm) (by k_asm) (by kcj_all) ⟨rfl, _, rfl⟩)
end
theorem wd23 : True := by
  k_with_none
  k_with "my fold" => (((first | (with_reducible show wpAny _ _ (exec (PySem.Stmt.Assign _ _ _) _) _ _ _) | (with_reducible show wpAny _ _ (exec (PySem.Stmt.Return _ _) _) _ _ _) | (with_reducible show wpAny _ _ (exec (PySem.Stmt.If _ _ _ _) _) _ _ _) | (with_reducible show wpAny _ _ (exec (PySem.Stmt.Expr _ _) _) _ _ _) | (with_reducible show wpAny _ _ (exec (PySem.Stmt.AugAssign _ _ _ _) _) _ _ _) | (with_reducible show wpAny _ _ (eval (PySem.Expr.BinOp _ _ _ _) _) _ _ _) | (with_reducible show wpAny _ _ (eval (PySem.Expr.Call _ _ _ _) _) _ _ _)); (fail_if_success (fail_if_success k_fold)); refine (let qk := _; keepQ qk ?_)))
  k_with "my get" => (assumption)
  k_with "mine call type:range" => ((k_here; (rename Fr _ _ _ _ => F'); (rename News _ _ _ _ => N'); (with_unfolding_all refine range1_rows F' N' ?_; intro _ _ _ _ _ _ _ _ _)))
  k_with "my steps" => (repeat' (first | ((fail_if_success (fail_if_success k_unfold)); (try dsimp only); refine (?_ : wpAny _ _ _ _ _ _)) | (k_unfold; (try dsimp only)) | k_extra "my fold" | ((fail_if_success (with_reducible show wpAny _ _ (pyIter _) (fun it s₂ => LoopAtV _ _ _ _ _ _ _ _ _ it s₂) _ _)); (fail_if_success (with_reducible show wpAny _ _ (pyIter _) (fun it s₂ => PairAt3 _ _ _ _ _ _ _ _ _ _ it s₂) _ _)); (fail_if_success (with_reducible show LoopStep3 _ _ _ _ _ _ _ _ _ _)); (fail_if_success (with_reducible show InvEndN _ _ _ _ _ _ _)); (fail_if_success (with_reducible show Ends _ _ _ _ _ _)); first | walk1 | (dsimp only; walk1) | (dsimp only; k_unfold; (try dsimp only)))))
  k_with "my plain steps" => (repeat' (first | ((fail_if_success (fail_if_success k_unfold)); (try dsimp only); refine (?_ : wpAny _ _ _ _ _ _)) | (k_unfold; (try dsimp only)) | ((fail_if_success (with_reducible show wpAny _ _ (pyIter _) (fun it s₂ => LoopAtV _ _ _ _ _ _ _ _ _ it s₂) _ _)); (fail_if_success (with_reducible show wpAny _ _ (pyIter _) (fun it s₂ => PairAt3 _ _ _ _ _ _ _ _ _ _ it s₂) _ _)); (fail_if_success (with_reducible show LoopStep3 _ _ _ _ _ _ _ _ _ _)); (fail_if_success (with_reducible show InvEndN _ _ _ _ _ _ _)); (fail_if_success (with_reducible show Ends _ _ _ _ _ _)); first | walk1 | (dsimp only; walk1) | (dsimp only; k_unfold; (try dsimp only)))))
  k_with "my bytes" => (first | exact all48 (by assumption) | (refine all_cons (by decide) ?_; k_extra "my bytes") | (refine all_snoc (by decide) ?_; k_extra "my bytes"))
  k_with "my size" => (first | (first | lia | omega) | ((try simp only [List.length_map, List.length_cons, List.length_append, List.length_nil, List.length_set, List.length_reverse, lits_length, figs_length, stepKs_length]); (first | lia | omega)))
  k_with "mine call type:bytes" => ((k_here; (with_reducible show wpAny _ _ (call (Value.type "bytes") [Value.ref _]) _ _ _); k_dflt (refine' bytesOf_K ?Fq278 ?Nq278 ?mq278 ?iq278 ?rq278 ?zq278 ?hq278 ?_; (case Fq278 => k_asm); (case Nq278 => k_asm); (case mq278 => k_mem); (case iq278 => assumption); (case rq278 => k_extra "my bytes"); (case zq278 => k_extra "my size"); (case hq278 => exact rfl); k_whole); intro h' t' k' F' N'; (try k_sweep)))
  k_with "my bytes" => ((refine all_set (u8_in _) ?_; k_extra "my bytes"))
  k_with "my byte at" => ((refine fig_at (by assumption) ?_; k_extra "my size"))
  k_with "mine subscriptTail" => ((k_here; (with_reducible show wpAny _ _ (subscriptTail _ _ (Value.bytes _ _) (Value.int _ _)) _ _ _); k_dflt (refine' bytesItem_K ?aq281 ?bq281 ?_ ?hsq281 ?htq281; (case aq281 => k_extra "my byte at"); (case bq281 => decide); (case hsq281 => with_unfolding_all rfl); (case htq281 => intro _; with_unfolding_all rfl))))
  k_with "my index" => (first | (first | lia | omega) | decide | assumption)
  k_with "mine compareOp In" => ((k_here; (with_reducible show wpAny _ _ (compareOp CmpOp.In (Value.int _ _) (Value.bytes _ _)) _ _ _); k_dflt (refine' in_bytes ?aq283 ?bq283 ?_; (case aq283 => (first | lia | omega)); (case bq283 => (first | lia | omega)))))
  k_with "mine getMethod" => ((k_here; (with_reducible show wpAny _ _ (getMethod (Value.bytes _ _) "index" _) _ _ _); refine index_method ?_))
  k_with "mine call builtin:bytes.index" => ((k_here; (with_reducible show wpAny _ _ (call (Value.builtin "bytes.index") [Value.bytes _ _, Value.int _ _]) _ _ _); k_dflt (refine' bytes_index _ ?aq285 ?bq285 ?cq285 ?dq285 ?_; (case aq285 => (first | lia | omega)); (case bq285 => (first | lia | omega)); (case cq285 => decide); (case dq285 => assumption)); intro _ _; (try dsimp only)))
  k_with "mine subscriptTail" => ((k_here; (with_reducible show wpAny _ _ (subscriptTail _ _ (Value.bytes (byteArr _) _) (Value.int _ _)) _ _ _); k_dflt (refine' bytesInt_K ?aq286 ?bq286 ?rq286 ?zq286 ?_ ?hsq286 ?htq286; (case aq286 => (first | lia | omega)); (case bq286 => assumption); (case rq286 => first | assumption | k_extra "my bytes"); (case zq286 => k_extra "my size"); (case hsq286 => with_unfolding_all rfl); (case htq286 => intro _; with_unfolding_all rfl)); intro _ _; (try dsimp only)))
  k_with "my pick" => ((with_reducible first | exact kmk_upto (by l_ints) (by (first | lia | omega)) | exact kmk_from (by l_ints) (by (first | lia | omega)) | exact kmk_upto_neg (by l_ints) (by (first | lia | omega)) | exact kmk_from_neg (by l_ints) (by (first | lia | omega))))
  k_with "mine subscriptTail Name Slice ref ref" => ((k_here; (with_reducible show wpAny _ _ (subscriptTail _ (PySem.Expr.Slice _ _ none _) (Value.ref _) (Value.ref _)) _ _ _); k_dflt (refine' kmk_slice_ints ?Fq288 ?Nq288 ?lq288 ?pq288 ?qq288 ?iq288 ?mq288 ?cq288 ?_ ?sq288 ?tq288 ?zq288; (case Fq288 => k_asm); (case Nq288 => k_asm); (case lq288 => kmk_list); (case pq288 => kmk_part); (case qq288 => kmk_part); (case iq288 => l_ints); (case mq288 => k_extra "my pick"); (case cq288 => kmk_len); (case sq288 => with_unfolding_all rfl); (case tq288 => kmk_pure); (case zq288 => kmk_size)); intro D' ws' h' F' N' l1 hI' hC' hL'; (try k_lt l1); (try k_sweep)))
  k_with "my ints" => (first | l_ints | exact IntsAre.cons _ _ IntsAre.nil | exact IntsAre.cons _ _ (IntsAre.cons _ _ IntsAre.nil))
  k_with "mine binaryOp Add ref ref" => ((k_here; (with_reducible show wpAny _ _ (binaryOp _ (Value.ref _) (Value.ref _)) _ _ _); k_dflt (refine' kmk_add_ints ?Fq290 ?Nq290 ?aq290 ?bq290 ?iq290 ?jq290 ?_ ?zq290; (case Fq290 => k_asm); (case Nq290 => k_asm); (case aq290 => kmk_list); (case bq290 => kmk_list); (case iq290 => k_extra "my ints"); (case jq290 => k_extra "my ints"); (case zq290 => first | ((simp only [sizeLine_eq]); k_extra "my size") | kmk_sum)); intro D' ws' h' F' N' l1 hI'; (try k_lt l1); (try k_sweep)))
  k_with "mine call builtin:len" => ((k_here; (with_reducible show wpAny _ _ (call (Value.builtin "len") [Value.bytes (byteArr _) _]) _ _ _); k_dflt (refine' len_byteArr ?zq291 ?_; (case zq291 => k_extra "my size")); intro _ _; (try dsimp only)))
  k_with "mine call builtin:ord" => ((k_here; (with_reducible show wpAny _ _ (call (Value.builtin "ord") [Value.str _ _]) _ _ _); refine ord_of_char ?_; (try dsimp only)))
  k_with "my text slice" => (((with_reducible rename Fr _ _ _ _ => F'); (with_reducible rename News _ _ _ _ => N'); first | ((with_reducible show wpAny _ _ (subscriptTail _ (Expr.Slice none (some _) none _) _ _) _ _ _); (refine slice_strN_ns_len (hsz := ?hszq293) (s := ⟨_, _, _, _, _⟩) F' N' ?_); (case hszq293 => rw [sizeLine_eq]; (first | lia | omega))) | ((with_reducible show wpAny _ _ (subscriptTail _ (Expr.Slice (some _) none none _) _ _) _ _ _); (refine slice_strN_sn_len (hsz := ?hszq293) (s := ⟨_, _, _, _, _⟩) F' N' ?_); (case hszq293 => rw [sizeLine_eq]; (first | lia | omega)))))
  k_with "my units" => (((try simp only [units_in1, units_deeper, Around.mark_units]); (try dsimp only [ktrTop]); (first | lia | omega)))
  k_with "my tail" => ((first | assumption | (refine' And.right ?_; first | assumption | (refine' And.right ?_; first | assumption | (refine' And.right ?_; first | assumption | (refine' And.right ?_; first | assumption | (refine' And.right ?_; first | assumption | (refine' And.right ?_; first | assumption | (refine' And.right ?_; first | assumption | (refine' And.right ?_; first | assumption | (refine' And.right ?_; assumption)))))))))))
  k_with "my conj" => (first | k_extra "my tail" | (refine' And.left ?_; k_extra "my tail") | (refine' And.left ?_; refine' And.left ?_; k_extra "my tail") | (refine' And.right ?_; refine' And.left ?_; k_extra "my tail"))
  k_with "my ne" => ((refine neN ?_; (try dsimp only); first | (refine' Nat.ne_of_lt ?_; k_extra "my conj") | (refine' Nat.ne_of_gt ?_; k_extra "my conj") | k_extra "my conj" | (refine' Ne.symm ?_; k_extra "my conj") | (first | lia | omega)))
  k_with "my sides" => (((case k1 => k_asm); (case k2 => k_asm); (case k3 => k_asm); (case k4 => k_asm); (case k5 => k_asm); (case kK => first | assumption | exact rfl); (case ks => kcj_all); (case kd => first | ((try simp only [depth_mark, depth_under_make, depth_under_kw, depth_in1, depth_deeper]); (try dsimp only [ktrTop]); first | (refine' room3 ?hhq298 ?llq298; (case hhq298 => assumption); (case llq298 => exact Nat.le_of_ble_eq_true rfl)) | (first | lia | omega)) | (with_unfolding_all exact Nat.le_of_ble_eq_true rfl)); (case ku => first | ((try simp only [units_in1, units_deeper, Around.mark_units]); (try dsimp only [ktrTop]); first | (refine' room3 ?hhq298 ?llq298; (case hhq298 => assumption); (case llq298 => exact Nat.le_of_ble_eq_true rfl)) | (first | lia | omega)) | (with_unfolding_all exact Nat.le_of_ble_eq_true rfl))))
  trivial
section
theorem slice_last {x : Str} (h : 1 ≤ x.length) : Txt.slice x none (some (-1)) = Txt.slice x none (some ((x.length : Int) - 1)) := by
  have e : Builtin.Str.strSliceIndices none (some (-1)) 1 x.length = Builtin.Str.strSliceIndices none (some ((x.length : Int) - 1)) 1 x.length := by
    unfold Builtin.Str.strSliceIndices
    have h1 : ¬ ((x.length : Int) - 1 < 0) := by (first | lia | omega)
    simp only [show (-1 : Int) < 0 by decide, if_true, h1, if_false, show (-1 : Int) + (x.length : Int) = (x.length : Int) - 1 by (first | lia | omega)]
  unfold Txt.slice
  rw [e]
theorem slice_to_last {x : Str} (h : 1 ≤ x.length) : strInts (Txt.slice x none (some (-1))) = (strInts x).take (x.length - 1) := by
  rw [slice_last h, beq_iff_eq.mp (slice_closes_toL (x := x) (j := (x.length : Int) - 1) (by (first | lia | omega)) (by (first | lia | omega)))]
  unfold strInts
  rw [show ((x.length : Int) - 1 - 0).toNat = x.length - 1 by (first | lia | omega)]
  exact List.map_take ..
theorem slice_from_one {x : Str} (h : 1 ≤ x.length) : strInts (Txt.slice x (some 1) none) = (strInts x).drop 1 := by
  rw [slice_from_eq (x := x) (i := 1) (b := x.length) (by decide) (by (first | lia | omega)) rfl]
  unfold strInts
  show List.map Int.ofNat (List.take _ (List.drop (1 : Int).toNat x.cps.toList)) = _
  rw [show (1 : Int).toNat = 1 from rfl, List.map_take, List.map_drop]
  apply List.take_of_length_le
  rw [List.length_drop, List.length_map]
  have : x.cps.toList.length = x.length := Array.length_toList
  (first | lia | omega)
theorem item_at {x : Str} {k c : Nat} {i : Int} (hk : x.cps[k]? = some c) (hi : i = (k : Int) ∨ i = (k : Int) - (x.length : Int)) : Txt.item x i = ⟨#[c]⟩ := by
  have hlt : k < x.length := (Array.getElem?_eq_some_iff.mp hk).1
  have e : seqIndex? i x.length = some k := by
    unfold seqIndex?
    rcases hi with rfl | rfl
    · have h1 : ¬ ((k : Int) < 0) := by (first | lia | omega)
      simp only [h1, if_false]
      rw [if_pos (by simp; (first | lia | omega))]; simp
    · have h1 : (k : Int) - (x.length : Int) < 0 := by (first | lia | omega)
      simp only [h1, if_true]
      rw [if_pos (by simp; (first | lia | omega))]; congr 1; (first | lia | omega)
  unfold Txt.item Txt.charAt
  rw [e]
  simp [hk]
theorem figText_at {d n k : Nat} (hk : k < d) : ∃ f : Nat, f < 10 ∧ (figText d n).cps[k]? = some (48 + f) ∧ (codesOf d n).getD k 0 = 48 + (f : Int) := by
  obtain ⟨f, hf, hg, hc⟩ := codes_get (n := n) hk
  refine ⟨f, hf, ?_, hc⟩
  rw [List.getElem?_map] at hg
  have : (figs 10 d n)[k]? = some f := by
    cases e : (figs 10 d n)[k]? with
    | none => rw [e] at hg; cases hg
    | some v => rw [e] at hg; have := Option.some.inj hg; congr 1; exact Int.ofNat.inj this
  show (((figs 10 d n).map (48 + ·)).toArray)[k]? = _
  simp [this]
theorem int_char : ∀ f : Nat, f < 10 → PySem.intText? ⟨#[48 + f]⟩ = some (f : Int) := by decide +kernel
theorem row_char : ∀ f : Nat, f < 10 → (Str.ofString "}JKLMNOPQR").cps[f]? = some (minusRow.toList.getD f 0).toNat ∧ (Str.ofString "{ABCDEFGHI").cps[f]? = some (plusRow.toList.getD f 0).toNat := by decide +kernel
/-- what the law's own row gives at a figure -/
theorem row_facts {d : Nat} {left : Int} {k : Nat} {n : Nat} (hn : n = left.natAbs) (hk : k < d) : ∃ (f : Nat) (z r : Str) (c : Nat), f < 10 ∧ (∀ i : Int, i = (k : Int) ∨ i = (k : Int) - (d : Int) → Txt.item (figText d n) i = z) ∧ PySem.intText? z = some (f : Int) ∧ z.length = 1 ∧
    (left < 0 → Txt.item (Str.ofString "}JKLMNOPQR") (f : Int) = r) ∧ (¬ left < 0 → Txt.item (Str.ofString "{ABCDEFGHI") (f : Int) = r) ∧ r.length = 1 ∧ strInts r = [(c : Int)] ∧ c < 128 ∧
    ((c : Nat) : Int) = ((((rowOf left).toList.getD ((codesOf d left.natAbs).getD k 0 - 48).toNat 0).toNat : Nat) : Int) := by
  subst hn
  obtain ⟨f, hf, ht, hc⟩ := figText_at (n := left.natAbs) hk
  obtain ⟨r1, r2⟩ := row_char f hf
  have hlow : ∀ f : Nat, f < 10 → (minusRow.toList.getD f 0).toNat < 128 ∧ (plusRow.toList.getD f 0).toNat < 128 := by decide +kernel
  have hl := hlow f hf
  refine ⟨f, ⟨#[48 + f]⟩, ⟨#[if left < 0 then (minusRow.toList.getD f 0).toNat else (plusRow.toList.getD f 0).toNat]⟩, if left < 0 then (minusRow.toList.getD f 0).toNat else (plusRow.toList.getD f 0).toNat, hf, fun i hi => item_at ht (by rw [figText_length]; exact hi), int_char f hf, rfl, fun h => ?_, fun h => ?_, rfl, rfl, ?_, ?_⟩
  · rw [if_pos h]; exact item_at r1 (.inl rfl)
  · rw [if_neg h]; exact item_at r2 (.inl rfl)
  · split
    · exact hl.1
    · exact hl.2
  · rw [hc, show (48 + (f : Int) - 48).toNat = f by (first | lia | omega)]
    unfold rowOf
    split <;> rfl
section
variable {prog : Program} {w : World} {A : Around} {E : Value → Shared → Prop} {s : Shared} {value slice : PySem.Expr} {x z : Str} {t u : Tok} {i : Int} {Q : Value → Shared → Prop}
theorem textItem (hz : Txt.item x i = z) (h0 : -(x.length : Int) ≤ i) (h1 : i < (x.length : Int)) (hn : x.length ≤ 1000) (h : ∀ t' k, Q (.str z t') { s with toks := k })
    (hs : subscripted slice false (.str x t) (.int i u) = operate [.str x t, .int i u] (getItem (.str x t) (.int i u)) := by with_unfolding_all rfl)
    (ht : ∀ r, letTemporaryGo value (.str x t) r = pure () := by intro _; with_unfolding_all rfl) :
    wpAny (model prog w) A (subscriptTail value slice (.str x t) (.int i u)) Q E s := by
  subst hz
  exact item_str (fitsSsize_of (N := 9223372036854775808) (by (first | lia | omega)) (by (first | lia | omega)) (Int.le_refl _)) (by (first | lia | omega)) (by (first | lia | omega)) (fun _ => h _ _) hs ht
end
end
theorem wd24 : True := by
  k_with "mine call ref" => ((k_here; (with_reducible show wpAny _ _ (call (Value.ref 530) _) _ _ _); k_dflt (refine' Spec.use0 (law_kept_spec _ _ _ _ _ _ ?c0q299) ?k1 ?k2 ?k3 ?k4 ?k5 ?kK ?ks ?kd ?ku ?_; (case c0q299 => (first | lia | omega)); k_extra "my sides"; intro t' h' tk' F' N'; (try k_sweep); (try dsimp only))))
  k_with "mine call ref" => ((k_here; (with_reducible show wpAny _ _ (call (Value.ref 523) _) _ _ _); k_dflt (refine' Spec.use0 (law_figures_spec _ _ _ _ _ ?c0q300 ?c1q300 ?c2q300 ?c3q300) ?k1 ?k2 ?k3 ?k4 ?k5 ?kK ?ks ?kd ?ku ?_; (case c0q300 => (first | (first | lia | omega) | (split <;> (first | lia | omega)))); (case c1q300 => (first | lia | omega)); (case c2q300 => (first | lia | omega)); (case c3q300 => (k_extra "my figures")); k_extra "my sides"; intro t' h' tk' F' N'; (try k_sweep); (try dsimp only))))
  trivial
section
theorem wd25 : True := by
  k_with "mine eval IfExp" => ((k_here; (rename CutMark => hHM); refine Held.mk ?_))
  k_with "my figures" => (assumption)
  k_with "mine eval ListComp" => ((k_here; k_dflt (refine ListComp_text (F₀ := by k_asm) (by with_unfolding_all rfl) (by decide) (by rfl) (by decide) (by rfl) ?_ (fun _ => rfl))))
  k_with "my bytes" => (assumption)
  k_with "mine subscriptTail" => ((k_here; (with_reducible show wpAny _ _ (subscriptTail _ (Expr.Slice _ _ _ _) (Value.str (figText _ _) _) (Value.ref _)) _ _ _); k_extra "my text slice"; intro _ _ _ _ _ _))
  k_with "mine subscriptTail" => ((k_here; (with_reducible show wpAny _ _ (subscriptTail _ _ (Value.str _ _) (Value.int _ _)) _ _ _); (refine textItem (by assumption) (by (first | lia | omega)) (by (first | lia | omega)) (by (first | lia | omega)) ?_); intro _ _))
  k_with "mine subscriptTail Name Constant str int" => ((k_here; (with_reducible show wpAny _ _ (subscriptTail _ _ (Value.str _ _) (Value.int _ _)) _ _ _); (refine textItem (by assumption) (by (first | lia | omega)) (by (first | lia | omega)) (by (first | lia | omega)) ?_); intro _ _))
  k_with "mine subscriptTail Name Call str int" => ((k_here; (with_reducible show wpAny _ _ (subscriptTail _ _ (Value.str _ _) (Value.int _ _)) _ _ _); (refine textItem (by assumption) (by (first | lia | omega)) (by (first | lia | omega)) (by (first | lia | omega)) ?_); intro _ _))
  k_with "mine subscriptTail Name UnaryOp str int" => ((k_here; (with_reducible show wpAny _ _ (subscriptTail _ _ (Value.str _ _) (Value.int _ _)) _ _ _); (refine textItem (by assumption) (by (first | lia | omega)) (by (first | lia | omega)) (by (first | lia | omega)) ?_); intro _ _))
  trivial
theorem over_t {d k c : Nat} {left : Int} {r : Str} (hd : 1 ≤ d) (hk : k = d - 1) (hr : strInts r = [(c : Int)]) (hc : (c : Int) = ((((rowOf left).toList.getD ((codesOf d left.natAbs).getD k 0 - 48).toNat 0).toNat : Nat) : Int)) :
    strInts (Txt.slice (figText d (if left < 0 then -left else left).toNat) none (some (-1)) ++ r) = dispOct d true false false left := by
  have e : dispOct d true false false left = (codesOf d left.natAbs).set (d - 1) ((((rowOf left).toList.getD ((codesOf d left.natAbs).getD (d - 1) 0 - 48).toNat 0).toNat : Nat) : Int) := rfl
  have hl : (codesOf d left.natAbs).length = d := codesOf_length _ _
  rw [strInts_append, slice_to_last (by rw [figText_length]; exact hd), figText_ints, figText_length, hr, absNat, e, hc, hk]
  generalize codesOf d left.natAbs = l at *
  obtain ⟨j, rfl⟩ : ∃ j, d = j + 1 := ⟨d - 1, by (first | lia | omega)⟩
  apply List.ext_getElem
  · simp; (first | lia | omega)
  · intro i h1 h2
    simp only [List.getElem_set, List.getElem_append, List.length_take]
    simp at h2
    by_cases h : i < j
    · rw [dif_pos (by (first | lia | omega)), if_neg (by (first | lia | omega))]; simp
    · rw [dif_neg (by (first | lia | omega)), if_pos (by (first | lia | omega))]; simp
theorem over_l {d k c : Nat} {left : Int} {r : Str} (hd : 1 ≤ d) (hk : k = 0) (hr : strInts r = [(c : Int)]) (hc : (c : Int) = ((((rowOf left).toList.getD ((codesOf d left.natAbs).getD k 0 - 48).toNat 0).toNat : Nat) : Int)) :
    strInts (r ++ Txt.slice (figText d (if left < 0 then -left else left).toNat) (some 1) none) = dispOct d true false true left := by
  have e : dispOct d true false true left = (codesOf d left.natAbs).set 0 ((((rowOf left).toList.getD ((codesOf d left.natAbs).getD 0 0 - 48).toNat 0).toNat : Nat) : Int) := rfl
  have hl : (codesOf d left.natAbs).length = d := codesOf_length _ _
  rw [strInts_append, slice_from_one (by rw [figText_length]; exact hd), figText_ints, hr, absNat, e, hc, hk]
  generalize codesOf d left.natAbs = l at *
  cases l with
  | nil => simp at hl; (first | lia | omega)
  | cons a l => rfl
theorem over_low {d : Nat} {lead : Bool} {left : Int} (hd : 1 ≤ d) : ∀ q ∈ dispOct d true false lead left, 0 ≤ q ∧ q < 128 := by
  have e : dispOct d true false lead left = (codesOf d left.natAbs).set (if lead = true then 0 else d - 1) ((((rowOf left).toList.getD ((codesOf d left.natAbs).getD (if lead = true then 0 else d - 1) 0 - 48).toNat 0).toNat : Nat) : Int) := rfl
  obtain ⟨f, z, r, c, _, _, _, _, _, _, _, _, hc, he⟩ := row_facts (left := left) (d := d) (k := if lead = true then 0 else d - 1) rfl (by split <;> (first | lia | omega))
  intro q hq
  rw [e, ← he] at hq
  rcases List.mem_or_eq_of_mem_set hq with h | rfl
  · exact ⟨(codes_in q h).1, codes_low q h⟩
  · (first | lia | omega)
theorem law_laid_t (w : World) (ts td tz tu : Tok) (d size : Nat) (u : Int) (h0 : 1 ≤ d) (h1 : d ≤ 18) :
    Spec w (hd.heap_1 w.params) 535 [.str (Str.ofString "trail") ts, .int size tz, .int d td, .bool true, .int u tu] [] 3 (fun v new => new = [] ∧ ∃ t, v = .bytes (byteArr (dispOct d true false false (kept d true u))) t) := by
  obtain ⟨hk1, hk2⟩ := kept_keeps d true u
  rw [← absNat] at hk1
  have hft : (figText d (if kept d true u < 0 then -kept d true u else kept d true u).toNat).length ≤ 18 := by rw [figText_length]; exact h1
  have hfl : (figText d (if kept d true u < 0 then -kept d true u else kept d true u).toNat).length = d := figText_length _ _
  have hml : (Str.ofString "}JKLMNOPQR").length = 10 := by decide
  have hql : (Str.ofString "{ABCDEFGHI").length = 10 := by decide
  obtain ⟨f, z, r, c, hf, hz, hint, hzl, hrm, hrp, hrl, hrs, hclow, hce⟩ := row_facts (left := kept d true u) (d := d) (k := d - 1) (absNat _) (by (first | lia | omega))
  have hz1 := hz (-1) (by (first | lia | omega))
  clear hz
  unfold Spec
  intro dp un gd cn cs a ccd cl outer A₀ base h₀ L m mg mb mean news s Q E B F X N T hk hs hroom hun ret
  refine enterCC (binds := [(Str.ofString "kind", .str (Str.ofString "trail") ts), (Str.ofString "size", .int size tz), (Str.ofString "digits", .int d td), (Str.ofString "is_signed", .bool true), (Str.ofString "units", .int u tu)]) B F X N T rfl rfl hk hs (by k_is) (by k_is) (show dp < recursionLimit from Nat.lt_of_le_of_lt (Nat.le_add_right _ _) hroom) (BindsTo.of_eq rfl) rfl (by decide +kernel) ret ?_ rfl rfl rfl
  clear B F X N T ret hs
  intro g L' h₁ gs5 dr5 tk os5 cells F' N' Y' B' X' T' l1
  (try k_lt l1); k_cells Y'; (try simp only [List.cons_append, List.nil_append] at N')
  (try dsimp only)
  show wpAny _ _ _ _ _ _
  k_fold
  obtain ⟨row, hRe⟩ : ∃ r : Str, r = (if kept d true u < 0 then Str.ofString "}JKLMNOPQR" else Str.ofString "{ABCDEFGHI") := ⟨_, rfl⟩
  have hRl : row.length = 10 := by rw [hRe]; split <;> decide
  have hRi : Txt.item row (f : Int) = r := by
    rw [hRe]
    split
    · exact hrm (by assumption)
    · exact hrp (by assumption)
  clear hrm hrp
  have hHM : CutMark := CutMark.mk
  k_extra "my steps"
  unfold Held
  clear hHM
  rename Fr _ _ _ _ => hF
  rename News _ _ _ _ => hN
  refine cut_at (fun v => ∃ x t, v = .str x t) hF hN ?_ ?_
  · k_extra "my steps"
    all_goals exact CutEnd.intro (by k_asm) (by k_asm) (fun _ h => h) ⟨_, _, rfl⟩
  intro v6 h6 k6 ⟨x6, t6, hv6⟩ F6 N6
  subst hv6
  clear hF hN
  show wpAny _ _ _ _ _ _
  (try k_fold)
  have hHM : CutMark := CutMark.mk
  k_extra "my steps"
  unfold Held
  clear hHM
  rename Fr _ _ _ _ => hF
  rename News _ _ _ _ => hN
  refine cut_at (fun v => ∃ t, v = .str row t) hF hN ?_ ?_
  · by_cases hu : kept d true u < 0
    · rw [if_pos hu] at hRe
      subst hRe
      k_extra "my steps"
      exact CutEnd.intro (by k_asm) (by k_asm) (fun _ h => h) ⟨_, rfl⟩
    · rw [if_neg hu] at hRe
      subst hRe
      k_extra "my steps"
      exact CutEnd.intro (by k_asm) (by k_asm) (fun _ h => h) ⟨_, rfl⟩
  intro v7 h7 k7 ⟨t7, hv7⟩ F7 N7
  subst hv7
  clear hF hN hRe
  show wpAny _ _ _ _ _ _
  (try k_fold)
  k_extra "my steps"
  all_goals (
    rename Fr _ _ _ _ => hF
    rename News _ _ _ _ => hN
    have hlen : (dispOct d true false false (kept d true u)).length ≤ 19 := by rw [dispOct_length, if_neg (fun h => Bool.false_ne_true h.2)]; (first | lia | omega)
    have hrg : ∀ q ∈ dispOct d true false false (kept d true u), 0 ≤ q ∧ q < 256 := fun q hq => ⟨(over_low h0 q hq).1, by have := (over_low h0 q hq).2; (first | lia | omega)⟩
    refine TextSrc.intro rfl hF hN (over_t h0 rfl hrs hce) (by (first | lia | omega)) (fun q hq => (over_low h0 q hq).2) (fun k => k) ?_ ?_
    · intro s₂ hs₂ k t I oI C oC D m₂ ys h tk E' hk hC hx F₂ N₂ off ne hMk
      obtain ⟨h9, rfl⟩ := hs₂
      clear hF hN
      simp only [LCg.Off3, and_true] at off
      (try dsimp only)
      show wpAny _ _ _ _ _ _
      k_fold
      k_extra "my steps"
    · intro s₂ hs₂ ys hy D h tk F₂ N₂ off
      obtain ⟨h9, rfl⟩ := hs₂
      rw [List.map_id'] at hy
      clear hF hN
      (try dsimp only)
      (try k_fold)
      k_extra "my steps"
      exact Ends.plain (by k_asm) (by k_asm) (by kcj_all) ⟨rfl, _, rfl⟩)
theorem law_laid_l (w : World) (ts td tz tu : Tok) (d size : Nat) (u : Int) (h0 : 1 ≤ d) (h1 : d ≤ 18) :
    Spec w (hd.heap_1 w.params) 535 [.str (Str.ofString "lead") ts, .int size tz, .int d td, .bool true, .int u tu] [] 3 (fun v new => new = [] ∧ ∃ t, v = .bytes (byteArr (dispOct d true false true (kept d true u))) t) := by
  obtain ⟨hk1, hk2⟩ := kept_keeps d true u
  rw [← absNat] at hk1
  have hft : (figText d (if kept d true u < 0 then -kept d true u else kept d true u).toNat).length ≤ 18 := by rw [figText_length]; exact h1
  have hfl : (figText d (if kept d true u < 0 then -kept d true u else kept d true u).toNat).length = d := figText_length _ _
  have hml : (Str.ofString "}JKLMNOPQR").length = 10 := by decide
  have hql : (Str.ofString "{ABCDEFGHI").length = 10 := by decide
  obtain ⟨f, z, r, c, hf, hz, hint, hzl, hrm, hrp, hrl, hrs, hclow, hce⟩ := row_facts (left := kept d true u) (d := d) (k := 0) (absNat _) (by (first | lia | omega))
  have hz1 := hz (0) (by (first | lia | omega))
  clear hz
  unfold Spec
  intro dp un gd cn cs a ccd cl outer A₀ base h₀ L m mg mb mean news s Q E B F X N T hk hs hroom hun ret
  refine enterCC (binds := [(Str.ofString "kind", .str (Str.ofString "lead") ts), (Str.ofString "size", .int size tz), (Str.ofString "digits", .int d td), (Str.ofString "is_signed", .bool true), (Str.ofString "units", .int u tu)]) B F X N T rfl rfl hk hs (by k_is) (by k_is) (show dp < recursionLimit from Nat.lt_of_le_of_lt (Nat.le_add_right _ _) hroom) (BindsTo.of_eq rfl) rfl (by decide +kernel) ret ?_ rfl rfl rfl
  clear B F X N T ret hs
  intro g L' h₁ gs5 dr5 tk os5 cells F' N' Y' B' X' T' l1
  (try k_lt l1); k_cells Y'; (try simp only [List.cons_append, List.nil_append] at N')
  (try dsimp only)
  show wpAny _ _ _ _ _ _
  k_fold
  obtain ⟨row, hRe⟩ : ∃ r : Str, r = (if kept d true u < 0 then Str.ofString "}JKLMNOPQR" else Str.ofString "{ABCDEFGHI") := ⟨_, rfl⟩
  have hRl : row.length = 10 := by rw [hRe]; split <;> decide
  have hRi : Txt.item row (f : Int) = r := by
    rw [hRe]
    split
    · exact hrm (by assumption)
    · exact hrp (by assumption)
  clear hrm hrp
  have hHM : CutMark := CutMark.mk
  k_extra "my steps"
  unfold Held
  clear hHM
  rename Fr _ _ _ _ => hF
  rename News _ _ _ _ => hN
  refine cut_at (fun v => ∃ x t, v = .str x t) hF hN ?_ ?_
  · k_extra "my steps"
    all_goals exact CutEnd.intro (by k_asm) (by k_asm) (fun _ h => h) ⟨_, _, rfl⟩
  intro v6 h6 k6 ⟨x6, t6, hv6⟩ F6 N6
  subst hv6
  clear hF hN
  show wpAny _ _ _ _ _ _
  (try k_fold)
  have hHM : CutMark := CutMark.mk
  k_extra "my steps"
  unfold Held
  clear hHM
  rename Fr _ _ _ _ => hF
  rename News _ _ _ _ => hN
  refine cut_at (fun v => ∃ t, v = .str row t) hF hN ?_ ?_
  · by_cases hu : kept d true u < 0
    · rw [if_pos hu] at hRe
      subst hRe
      k_extra "my steps"
      exact CutEnd.intro (by k_asm) (by k_asm) (fun _ h => h) ⟨_, rfl⟩
    · rw [if_neg hu] at hRe
      subst hRe
      k_extra "my steps"
      exact CutEnd.intro (by k_asm) (by k_asm) (fun _ h => h) ⟨_, rfl⟩
  intro v7 h7 k7 ⟨t7, hv7⟩ F7 N7
  subst hv7
  clear hF hN hRe
  show wpAny _ _ _ _ _ _
  (try k_fold)
  k_extra "my steps"
  all_goals (
    rename Fr _ _ _ _ => hF
    rename News _ _ _ _ => hN
    have hlen : (dispOct d true false true (kept d true u)).length ≤ 19 := by rw [dispOct_length, if_neg (fun h => Bool.false_ne_true h.2)]; (first | lia | omega)
    have hrg : ∀ q ∈ dispOct d true false true (kept d true u), 0 ≤ q ∧ q < 256 := fun q hq => ⟨(over_low h0 q hq).1, by have := (over_low h0 q hq).2; (first | lia | omega)⟩
    refine TextSrc.intro rfl hF hN (over_l h0 rfl hrs hce) (by (first | lia | omega)) (fun q hq => (over_low h0 q hq).2) (fun k => k) ?_ ?_
    · intro s₂ hs₂ k t I oI C oC D m₂ ys h tk E' hk hC hx F₂ N₂ off ne hMk
      obtain ⟨h9, rfl⟩ := hs₂
      clear hF hN
      simp only [LCg.Off3, and_true] at off
      (try dsimp only)
      show wpAny _ _ _ _ _ _
      k_fold
      k_extra "my steps"
    · intro s₂ hs₂ ys hy D h tk F₂ N₂ off
      obtain ⟨h9, rfl⟩ := hs₂
      rw [List.map_id'] at hy
      clear hF hN
      (try dsimp only)
      (try k_fold)
      k_extra "my steps"
      exact Ends.plain (by k_asm) (by k_asm) (by kcj_all) ⟨rfl, _, rfl⟩)
end
theorem wd26 : True := by
  k_with_none
  k_with "my fold" => (((first | (with_reducible show wpAny _ _ (exec (PySem.Stmt.Assign _ _ _) _) _ _ _) | (with_reducible show wpAny _ _ (exec (PySem.Stmt.Return _ _) _) _ _ _) | (with_reducible show wpAny _ _ (exec (PySem.Stmt.If _ _ _ _) _) _ _ _) | (with_reducible show wpAny _ _ (exec (PySem.Stmt.Expr _ _) _) _ _ _) | (with_reducible show wpAny _ _ (exec (PySem.Stmt.AugAssign _ _ _ _) _) _ _ _) | (with_reducible show wpAny _ _ (eval (PySem.Expr.BinOp _ _ _ _) _) _ _ _) | (with_reducible show wpAny _ _ (eval (PySem.Expr.Call _ _ _ _) _) _ _ _)); (fail_if_success (fail_if_success k_fold)); refine (let qk := _; keepQ qk ?_)))
  k_with "my get" => (assumption)
  k_with "mine call type:range" => ((k_here; (rename Fr _ _ _ _ => F'); (rename News _ _ _ _ => N'); (with_unfolding_all refine range1_rows F' N' ?_; intro _ _ _ _ _ _ _ _ _)))
  k_with "my steps" => (repeat' (first | ((fail_if_success (fail_if_success k_unfold)); (try dsimp only); refine (?_ : wpAny _ _ _ _ _ _)) | (k_unfold; (try dsimp only)) | k_extra "my fold" | ((fail_if_success (with_reducible show wpAny _ _ (pyIter _) (fun it s₂ => LoopAtV _ _ _ _ _ _ _ _ _ it s₂) _ _)); (fail_if_success (with_reducible show wpAny _ _ (pyIter _) (fun it s₂ => PairAt3 _ _ _ _ _ _ _ _ _ _ it s₂) _ _)); (fail_if_success (with_reducible show LoopStep3 _ _ _ _ _ _ _ _ _ _)); (fail_if_success (with_reducible show InvEndN _ _ _ _ _ _ _)); (fail_if_success (with_reducible show Ends _ _ _ _ _ _)); first | walk1 | (dsimp only; walk1) | (dsimp only; k_unfold; (try dsimp only)))))
  k_with "my plain steps" => (repeat' (first | ((fail_if_success (fail_if_success k_unfold)); (try dsimp only); refine (?_ : wpAny _ _ _ _ _ _)) | (k_unfold; (try dsimp only)) | ((fail_if_success (with_reducible show wpAny _ _ (pyIter _) (fun it s₂ => LoopAtV _ _ _ _ _ _ _ _ _ it s₂) _ _)); (fail_if_success (with_reducible show wpAny _ _ (pyIter _) (fun it s₂ => PairAt3 _ _ _ _ _ _ _ _ _ _ it s₂) _ _)); (fail_if_success (with_reducible show LoopStep3 _ _ _ _ _ _ _ _ _ _)); (fail_if_success (with_reducible show InvEndN _ _ _ _ _ _ _)); (fail_if_success (with_reducible show Ends _ _ _ _ _ _)); first | walk1 | (dsimp only; walk1) | (dsimp only; k_unfold; (try dsimp only)))))
  k_with "my bytes" => (first | exact all48 (by assumption) | (refine all_cons (by decide) ?_; k_extra "my bytes") | (refine all_snoc (by decide) ?_; k_extra "my bytes"))
  k_with "my size" => (first | (first | lia | omega) | ((try simp only [List.length_map, List.length_cons, List.length_append, List.length_nil, List.length_set, List.length_reverse, lits_length, figs_length, stepKs_length]); (first | lia | omega)))
  k_with "mine call type:bytes" => ((k_here; (with_reducible show wpAny _ _ (call (Value.type "bytes") [Value.ref _]) _ _ _); k_dflt (refine' bytesOf_K ?Fq317 ?Nq317 ?mq317 ?iq317 ?rq317 ?zq317 ?hq317 ?_; (case Fq317 => k_asm); (case Nq317 => k_asm); (case mq317 => k_mem); (case iq317 => assumption); (case rq317 => k_extra "my bytes"); (case zq317 => k_extra "my size"); (case hq317 => exact rfl); k_whole); intro h' t' k' F' N'; (try k_sweep)))
  k_with "my bytes" => ((refine all_set (u8_in _) ?_; k_extra "my bytes"))
  k_with "my byte at" => ((refine fig_at (by assumption) ?_; k_extra "my size"))
  k_with "mine subscriptTail" => ((k_here; (with_reducible show wpAny _ _ (subscriptTail _ _ (Value.bytes _ _) (Value.int _ _)) _ _ _); k_dflt (refine' bytesItem_K ?aq320 ?bq320 ?_ ?hsq320 ?htq320; (case aq320 => k_extra "my byte at"); (case bq320 => decide); (case hsq320 => with_unfolding_all rfl); (case htq320 => intro _; with_unfolding_all rfl))))
  k_with "my index" => (first | (first | lia | omega) | decide | assumption)
  k_with "mine compareOp In" => ((k_here; (with_reducible show wpAny _ _ (compareOp CmpOp.In (Value.int _ _) (Value.bytes _ _)) _ _ _); k_dflt (refine' in_bytes ?aq322 ?bq322 ?_; (case aq322 => (first | lia | omega)); (case bq322 => (first | lia | omega)))))
  k_with "mine getMethod" => ((k_here; (with_reducible show wpAny _ _ (getMethod (Value.bytes _ _) "index" _) _ _ _); refine index_method ?_))
  k_with "mine call builtin:bytes.index" => ((k_here; (with_reducible show wpAny _ _ (call (Value.builtin "bytes.index") [Value.bytes _ _, Value.int _ _]) _ _ _); k_dflt (refine' bytes_index _ ?aq324 ?bq324 ?cq324 ?dq324 ?_; (case aq324 => (first | lia | omega)); (case bq324 => (first | lia | omega)); (case cq324 => decide); (case dq324 => assumption)); intro _ _; (try dsimp only)))
  k_with "mine subscriptTail" => ((k_here; (with_reducible show wpAny _ _ (subscriptTail _ _ (Value.bytes (byteArr _) _) (Value.int _ _)) _ _ _); k_dflt (refine' bytesInt_K ?aq325 ?bq325 ?rq325 ?zq325 ?_ ?hsq325 ?htq325; (case aq325 => (first | lia | omega)); (case bq325 => assumption); (case rq325 => first | assumption | k_extra "my bytes"); (case zq325 => k_extra "my size"); (case hsq325 => with_unfolding_all rfl); (case htq325 => intro _; with_unfolding_all rfl)); intro _ _; (try dsimp only)))
  k_with "my pick" => ((with_reducible first | exact kmk_upto (by l_ints) (by (first | lia | omega)) | exact kmk_from (by l_ints) (by (first | lia | omega)) | exact kmk_upto_neg (by l_ints) (by (first | lia | omega)) | exact kmk_from_neg (by l_ints) (by (first | lia | omega))))
  k_with "mine subscriptTail Name Slice ref ref" => ((k_here; (with_reducible show wpAny _ _ (subscriptTail _ (PySem.Expr.Slice _ _ none _) (Value.ref _) (Value.ref _)) _ _ _); k_dflt (refine' kmk_slice_ints ?Fq327 ?Nq327 ?lq327 ?pq327 ?qq327 ?iq327 ?mq327 ?cq327 ?_ ?sq327 ?tq327 ?zq327; (case Fq327 => k_asm); (case Nq327 => k_asm); (case lq327 => kmk_list); (case pq327 => kmk_part); (case qq327 => kmk_part); (case iq327 => l_ints); (case mq327 => k_extra "my pick"); (case cq327 => kmk_len); (case sq327 => with_unfolding_all rfl); (case tq327 => kmk_pure); (case zq327 => kmk_size)); intro D' ws' h' F' N' l1 hI' hC' hL'; (try k_lt l1); (try k_sweep)))
  k_with "my ints" => (first | l_ints | exact IntsAre.cons _ _ IntsAre.nil | exact IntsAre.cons _ _ (IntsAre.cons _ _ IntsAre.nil))
  k_with "mine binaryOp Add ref ref" => ((k_here; (with_reducible show wpAny _ _ (binaryOp _ (Value.ref _) (Value.ref _)) _ _ _); k_dflt (refine' kmk_add_ints ?Fq329 ?Nq329 ?aq329 ?bq329 ?iq329 ?jq329 ?_ ?zq329; (case Fq329 => k_asm); (case Nq329 => k_asm); (case aq329 => kmk_list); (case bq329 => kmk_list); (case iq329 => k_extra "my ints"); (case jq329 => k_extra "my ints"); (case zq329 => first | ((simp only [sizeLine_eq]); k_extra "my size") | kmk_sum)); intro D' ws' h' F' N' l1 hI'; (try k_lt l1); (try k_sweep)))
  k_with "mine call builtin:len" => ((k_here; (with_reducible show wpAny _ _ (call (Value.builtin "len") [Value.bytes (byteArr _) _]) _ _ _); k_dflt (refine' len_byteArr ?zq330 ?_; (case zq330 => k_extra "my size")); intro _ _; (try dsimp only)))
  k_with "mine call builtin:ord" => ((k_here; (with_reducible show wpAny _ _ (call (Value.builtin "ord") [Value.str _ _]) _ _ _); refine ord_of_char ?_; (try dsimp only)))
  k_with "my text slice" => (((with_reducible rename Fr _ _ _ _ => F'); (with_reducible rename News _ _ _ _ => N'); first | ((with_reducible show wpAny _ _ (subscriptTail _ (Expr.Slice none (some _) none _) _ _) _ _ _); (refine slice_strN_ns_len (hsz := ?hszq332) (s := ⟨_, _, _, _, _⟩) F' N' ?_); (case hszq332 => rw [sizeLine_eq]; (first | lia | omega))) | ((with_reducible show wpAny _ _ (subscriptTail _ (Expr.Slice (some _) none none _) _ _) _ _ _); (refine slice_strN_sn_len (hsz := ?hszq332) (s := ⟨_, _, _, _, _⟩) F' N' ?_); (case hszq332 => rw [sizeLine_eq]; (first | lia | omega)))))
  k_with "my units" => (((try simp only [units_in1, units_deeper, Around.mark_units]); (try dsimp only [ktrTop]); (first | lia | omega)))
  k_with "my tail" => ((first | assumption | (refine' And.right ?_; first | assumption | (refine' And.right ?_; first | assumption | (refine' And.right ?_; first | assumption | (refine' And.right ?_; first | assumption | (refine' And.right ?_; first | assumption | (refine' And.right ?_; first | assumption | (refine' And.right ?_; first | assumption | (refine' And.right ?_; first | assumption | (refine' And.right ?_; assumption)))))))))))
  k_with "my conj" => (first | k_extra "my tail" | (refine' And.left ?_; k_extra "my tail") | (refine' And.left ?_; refine' And.left ?_; k_extra "my tail") | (refine' And.right ?_; refine' And.left ?_; k_extra "my tail"))
  k_with "my ne" => ((refine neN ?_; (try dsimp only); first | (refine' Nat.ne_of_lt ?_; k_extra "my conj") | (refine' Nat.ne_of_gt ?_; k_extra "my conj") | k_extra "my conj" | (refine' Ne.symm ?_; k_extra "my conj") | (first | lia | omega)))
  k_with "my sides" => (((case k1 => k_asm); (case k2 => k_asm); (case k3 => k_asm); (case k4 => k_asm); (case k5 => k_asm); (case kK => first | assumption | exact rfl); (case ks => kcj_all); (case kd => first | ((try simp only [depth_mark, depth_under_make, depth_under_kw, depth_in1, depth_deeper]); (try dsimp only [ktrTop]); first | (refine' room3 ?hhq337 ?llq337; (case hhq337 => assumption); (case llq337 => exact Nat.le_of_ble_eq_true rfl)) | (first | lia | omega)) | (with_unfolding_all exact Nat.le_of_ble_eq_true rfl)); (case ku => first | ((try simp only [units_in1, units_deeper, Around.mark_units]); (try dsimp only [ktrTop]); first | (refine' room3 ?hhq337 ?llq337; (case hhq337 => assumption); (case llq337 => exact Nat.le_of_ble_eq_true rfl)) | (first | lia | omega)) | (with_unfolding_all exact Nat.le_of_ble_eq_true rfl))))
  k_with "mine call ref" => ((k_here; (with_reducible show wpAny _ _ (call (Value.ref 530) _) _ _ _); k_dflt (refine' Spec.use0 (law_kept_spec _ _ _ _ _ _ ?c0q338) ?k1 ?k2 ?k3 ?k4 ?k5 ?kK ?ks ?kd ?ku ?_; (case c0q338 => (first | lia | omega)); k_extra "my sides"; intro t' h' tk' F' N'; (try k_sweep); (try dsimp only))))
  k_with "mine call ref" => ((k_here; (with_reducible show wpAny _ _ (call (Value.ref 523) _) _ _ _); k_dflt (refine' Spec.use0 (law_figures_spec _ _ _ _ _ ?c0q339 ?c1q339 ?c2q339 ?c3q339) ?k1 ?k2 ?k3 ?k4 ?k5 ?kK ?ks ?kd ?ku ?_; (case c0q339 => (first | (first | lia | omega) | (split <;> (first | lia | omega)))); (case c1q339 => (first | lia | omega)); (case c2q339 => (first | lia | omega)); (case c3q339 => (k_extra "my figures")); k_extra "my sides"; intro t' h' tk' F' N'; (try k_sweep); (try dsimp only))))
  trivial
section
theorem figs_range {b : Nat} : ∀ c n, figs b c n = (List.range c).map fun i => n / b ^ (c - 1 - i) % b
  | 0, _ => rfl
  | c + 1, n => by
    rw [figs, figs_range c (n / b), List.range_succ, List.map_append, List.map_singleton]
    congr 1
    · refine List.map_congr_left fun i hi => ?_
      have := List.mem_range.mp hi
      rw [Nat.div_div_eq_div_mul, ← Nat.pow_succ', show (c - 1 - i).succ = c + 1 - 1 - i by (first | lia | omega)]
    · rw [show c + 1 - 1 - c = 0 by (first | lia | omega), Nat.pow_zero, Nat.div_one]
def wholeOf (size : Nat) (left : Int) : Int := if 0 ≤ left then left else 256 ^ size + left
theorem bin_list {size : Nat} {left w : Int} (hw : w = wholeOf size left) (h1 : 1 ≤ size) (ha : left.natAbs < 256 ^ size) : (stepKs ((size : Int) - 1) (-1) size).map (fun k => (w.fdiv (256 ^ k.toNat)).fmod 256) = binOct size left := by
  have hM : (256 : Int) ^ size = ((256 ^ size : Nat) : Int) := by rw [Int.natCast_pow]; rfl
  obtain ⟨ha1, ha2⟩ := abs_lt ha
  clear ha
  have e : Int.fmod left (256 ^ size) = w := by
    rw [hw, wholeOf, hM, Int.fmod_eq_emod_of_nonneg _ (Int.natCast_nonneg _)]
    split
    · exact Int.emod_eq_of_lt (by assumption) ha2
    · rw [← Int.add_emod_left, Int.emod_eq_of_lt (by (first | lia | omega)) (by (first | lia | omega))]
  have h0 : 0 ≤ w := by
    rw [hw, wholeOf, hM]
    split
    · assumption
    · (first | lia | omega)
  rw [binOct, e, figs_range, stepKs, List.map_map, List.map_map]
  refine List.map_congr_left fun i hi => ?_
  have := List.mem_range.mp hi
  show (w.fdiv (256 ^ (((size : Int) - 1 + (i : Int) * -1).toNat))).fmod 256 = ((w.toNat / 256 ^ (size - 1 - i) % 256 : Nat) : Int)
  rw [down_nat this]
  have hp : (256 : Int) ^ (size - 1 - i) = ((256 ^ (size - 1 - i) : Nat) : Int) := by rw [Int.natCast_pow]; rfl
  rw [hp, Int.fdiv_eq_ediv_of_nonneg _ (Int.natCast_nonneg _), Int.fmod_eq_emod_of_nonneg _ (by decide)]
  have hw2 : w = ((w.toNat : Nat) : Int) := (Int.toNat_of_nonneg h0).symm
  rw [hw2]
  push_cast
  rfl
theorem down_size {n : Nat} {a : Int} (h : a = (n : Int) - 1) : Builtin.Range.rangeSize a (-1) (-1) = (n : Int) := by
  unfold Builtin.Range.rangeSize
  simp only [show ¬ ((-1 : Int) > 0) by decide, if_false, Int.neg_neg, Int.ediv_one]
  split <;> (first | lia | omega)
theorem down_small' : ∀ n : Nat, n < 9 → Builtin.Range.small ((n : Int) - 1) (-1) (-1) = true := by decide
theorem down_small {n : Nat} {a : Int} (hn : n < 9) (h : a = (n : Int) - 1) : Builtin.Range.small a (-1) (-1) = true := by rw [h]; exact down_small' n hn
theorem pow_log {k : Nat} (h : k ≤ 8) : ((256 : Int) ^ k).natAbs.log2 < 9000 := by
  have e : ((256 : Int) ^ k).natAbs = 256 ^ k := by
    rw [Int.natAbs_pow]; rfl
  rw [e]
  have h1 : (256 : Nat) ^ k ≤ 256 ^ 8 := Nat.pow_le_pow_right (by decide) h
  have h2 : (256 : Nat) ^ k ≠ 0 := Nat.pos_iff_ne_zero.mp (Nat.pow_pos (by decide))
  refine (Nat.log2_lt h2).mpr (Nat.lt_of_le_of_lt h1 ?_)
  exact Nat.lt_of_lt_of_le (by decide : 256 ^ 8 < 2 ^ 65) (Nat.pow_le_pow_right (by decide) (by decide))
theorem wd27 : True := by
  k_with "mine binaryOp FloorDiv int int" => ((k_here; (with_reducible refine floordiv_int ?eq340 ?_ (Or.inl (PyProof.noPylong_of_log2 ?pq340))); (case eq340 => assumption); (case pq340 => exact pow_log (by (first | lia | omega))); (try dsimp only)))
  k_with "my bytes" => (assumption)
  k_with "mine eval ListComp" => ((k_here; k_dflt (refine ListComp_step (F₀ := by k_asm) (by with_unfolding_all rfl) (by decide) (by rfl) (by decide) (by rfl) ?_ (fun _ => rfl))))
  trivial
theorem law_laid_bin (w : World) (ts td tz tu : Tok) (d size : Nat) (sg : Bool) (u : Int) (hz : BinSize d size) :
    Spec w (hd.heap_1 w.params) 535 [.str (Str.ofString "binary") ts, .int size tz, .int d td, .bool sg, .int u tu] [] 3 (fun v new => new = [] ∧ ∃ t, v = .bytes (byteArr (binOct size (kept d sg u))) t) := by
  obtain ⟨hk1, hk2⟩ := kept_keeps d sg u
  obtain ⟨z1, z2, z3⟩ := hz.room
  have h1 : d ≤ 18 := by rcases hz with h | h | h <;> (first | lia | omega)
  have hab : (kept d sg u).natAbs < 256 ^ size := by
    have : 128 * 256 ^ (size - 1) ≤ 256 ^ size := by
      obtain ⟨c, rfl⟩ : ∃ c, size = c + 1 := ⟨size - 1, by (first | lia | omega)⟩
      rw [Nat.add_sub_cancel, Nat.pow_succ]; (first | lia | omega)
    (first | lia | omega)
  unfold Spec
  intro dp un gd cn cs a ccd cl outer A₀ base h₀ L m mg mb mean news s Q E B F X N T hk hs hroom hun ret
  refine enterCC (binds := [(Str.ofString "kind", .str (Str.ofString "binary") ts), (Str.ofString "size", .int size tz), (Str.ofString "digits", .int d td), (Str.ofString "is_signed", .bool sg), (Str.ofString "units", .int u tu)]) B F X N T rfl rfl hk hs (by k_is) (by k_is) (show dp < recursionLimit from Nat.lt_of_le_of_lt (Nat.le_add_right _ _) hroom) (BindsTo.of_eq rfl) rfl (by decide +kernel) ret ?_ rfl rfl rfl
  clear B F X N T ret hs
  intro g L' h₁ gs5 dr5 tk os5 cells F' N' Y' B' X' T' l1
  (try k_lt l1); k_cells Y'; (try simp only [List.cons_append, List.nil_append] at N')
  (try dsimp only)
  show wpAny _ _ _ _ _ _
  k_fold
  k_extra "my steps"
  · rename IsRange _ _ _ _ _ _ _ _ => hR
    rename Fr _ _ _ _ => hF
    rename News _ _ _ _ => hN
    have hBl : (binOct size (kept d sg u)).length = size := binOct_length
    have hBi : ∀ q ∈ binOct size (kept d sg u), 0 ≤ q ∧ q < 256 := bins_in
    have hwh : (kept d sg u) = wholeOf size (kept d sg u) := (if_pos (by assumption)).symm
    refine StepSrc.intro size rfl hF hN hR (down_small (n := size) (by (first | lia | omega)) (by (first | lia | omega))) (down_size (by (first | lia | omega))) (by rw [sizeLine_eq]; (first | lia | omega)) (fun k => ((kept d sg u).fdiv (256 ^ k.toNat)).fmod 256) ?_ ?_
    · intro s₂ hs₂ i k t I oI C oC D m₂ ys h tk E' hi hk hC hx F₂ N₂ off ne hMk
      obtain ⟨h9, rfl⟩ := hs₂
      have hk2 : 0 ≤ k := by (first | lia | omega)
      have hk3 : k ≤ 8 := by (first | lia | omega)
      have hpw : (0 : Int) < 256 ^ k.toNat := Int.pow_pos (by decide)
      have hpn : (256 : Int) ^ k.toNat ≠ 0 := by (first | lia | omega)
      clear hF hN hR
      simp only [LCg.Off3, and_true] at off
      (try dsimp only)
      show wpAny _ _ _ _ _ _
      k_fold
      k_extra "my steps"
    · intro s₂ hs₂ ys hy D h tk F₂ N₂ off
      obtain ⟨h9, rfl⟩ := hs₂
      rw [bin_list hwh z1 hab] at hy
      clear hF hN hR
      (try dsimp only)
      (try k_fold)
      k_extra "my steps"
      exact Ends.plain (by k_asm) (by k_asm) (by kcj_all) ⟨rfl, _, rfl⟩
  · rename IsRange _ _ _ _ _ _ _ _ => hR
    rename Fr _ _ _ _ => hF
    rename News _ _ _ _ => hN
    have hBl : (binOct size (kept d sg u)).length = size := binOct_length
    have hBi : ∀ q ∈ binOct size (kept d sg u), 0 ≤ q ∧ q < 256 := bins_in
    have hwh : (256 ^ (size : Int).toNat + kept d sg u) = wholeOf size (kept d sg u) := (by rw [Int.toNat_natCast]; exact (if_neg (by (first | lia | omega))).symm)
    refine StepSrc.intro size rfl hF hN hR (down_small (n := size) (by (first | lia | omega)) (by (first | lia | omega))) (down_size (by (first | lia | omega))) (by rw [sizeLine_eq]; (first | lia | omega)) (fun k => ((256 ^ (size : Int).toNat + kept d sg u).fdiv (256 ^ k.toNat)).fmod 256) ?_ ?_
    · intro s₂ hs₂ i k t I oI C oC D m₂ ys h tk E' hi hk hC hx F₂ N₂ off ne hMk
      obtain ⟨h9, rfl⟩ := hs₂
      have hk2 : 0 ≤ k := by (first | lia | omega)
      have hk3 : k ≤ 8 := by (first | lia | omega)
      have hpw : (0 : Int) < 256 ^ k.toNat := Int.pow_pos (by decide)
      have hpn : (256 : Int) ^ k.toNat ≠ 0 := by (first | lia | omega)
      clear hF hN hR
      simp only [LCg.Off3, and_true] at off
      (try dsimp only)
      show wpAny _ _ _ _ _ _
      k_fold
      k_extra "my steps"
    · intro s₂ hs₂ ys hy D h tk F₂ N₂ off
      obtain ⟨h9, rfl⟩ := hs₂
      rw [bin_list hwh z1 hab] at hy
      clear hF hN hR
      (try dsimp only)
      (try k_fold)
      k_extra "my steps"
      exact Ends.plain (by k_asm) (by k_asm) (by kcj_all) ⟨rfl, _, rfl⟩
theorem law_laid_idx (w : World) (ts td tz tu : Tok) (d size : Nat) (sg : Bool) (u : Int) (hz : BinSize d size) :
    Spec w (hd.heap_1 w.params) 535 [.str (Str.ofString "index") ts, .int size tz, .int d td, .bool sg, .int u tu] [] 3 (fun v new => new = [] ∧ ∃ t, v = .bytes (byteArr (binOct size (kept d sg u))) t) := by
  obtain ⟨hk1, hk2⟩ := kept_keeps d sg u
  obtain ⟨z1, z2, z3⟩ := hz.room
  have h1 : d ≤ 18 := by rcases hz with h | h | h <;> (first | lia | omega)
  have hab : (kept d sg u).natAbs < 256 ^ size := by
    have : 128 * 256 ^ (size - 1) ≤ 256 ^ size := by
      obtain ⟨c, rfl⟩ : ∃ c, size = c + 1 := ⟨size - 1, by (first | lia | omega)⟩
      rw [Nat.add_sub_cancel, Nat.pow_succ]; (first | lia | omega)
    (first | lia | omega)
  unfold Spec
  intro dp un gd cn cs a ccd cl outer A₀ base h₀ L m mg mb mean news s Q E B F X N T hk hs hroom hun ret
  refine enterCC (binds := [(Str.ofString "kind", .str (Str.ofString "index") ts), (Str.ofString "size", .int size tz), (Str.ofString "digits", .int d td), (Str.ofString "is_signed", .bool sg), (Str.ofString "units", .int u tu)]) B F X N T rfl rfl hk hs (by k_is) (by k_is) (show dp < recursionLimit from Nat.lt_of_le_of_lt (Nat.le_add_right _ _) hroom) (BindsTo.of_eq rfl) rfl (by decide +kernel) ret ?_ rfl rfl rfl
  clear B F X N T ret hs
  intro g L' h₁ gs5 dr5 tk os5 cells F' N' Y' B' X' T' l1
  (try k_lt l1); k_cells Y'; (try simp only [List.cons_append, List.nil_append] at N')
  (try dsimp only)
  show wpAny _ _ _ _ _ _
  k_fold
  k_extra "my steps"
  · rename IsRange _ _ _ _ _ _ _ _ => hR
    rename Fr _ _ _ _ => hF
    rename News _ _ _ _ => hN
    have hBl : (binOct size (kept d sg u)).length = size := binOct_length
    have hBi : ∀ q ∈ binOct size (kept d sg u), 0 ≤ q ∧ q < 256 := bins_in
    have hwh : (kept d sg u) = wholeOf size (kept d sg u) := (if_pos (by assumption)).symm
    refine StepSrc.intro size rfl hF hN hR (down_small (n := size) (by (first | lia | omega)) (by (first | lia | omega))) (down_size (by (first | lia | omega))) (by rw [sizeLine_eq]; (first | lia | omega)) (fun k => ((kept d sg u).fdiv (256 ^ k.toNat)).fmod 256) ?_ ?_
    · intro s₂ hs₂ i k t I oI C oC D m₂ ys h tk E' hi hk hC hx F₂ N₂ off ne hMk
      obtain ⟨h9, rfl⟩ := hs₂
      have hk2 : 0 ≤ k := by (first | lia | omega)
      have hk3 : k ≤ 8 := by (first | lia | omega)
      have hpw : (0 : Int) < 256 ^ k.toNat := Int.pow_pos (by decide)
      have hpn : (256 : Int) ^ k.toNat ≠ 0 := by (first | lia | omega)
      clear hF hN hR
      simp only [LCg.Off3, and_true] at off
      (try dsimp only)
      show wpAny _ _ _ _ _ _
      k_fold
      k_extra "my steps"
    · intro s₂ hs₂ ys hy D h tk F₂ N₂ off
      obtain ⟨h9, rfl⟩ := hs₂
      rw [bin_list hwh z1 hab] at hy
      clear hF hN hR
      (try dsimp only)
      (try k_fold)
      k_extra "my steps"
      exact Ends.plain (by k_asm) (by k_asm) (by kcj_all) ⟨rfl, _, rfl⟩
  · rename IsRange _ _ _ _ _ _ _ _ => hR
    rename Fr _ _ _ _ => hF
    rename News _ _ _ _ => hN
    have hBl : (binOct size (kept d sg u)).length = size := binOct_length
    have hBi : ∀ q ∈ binOct size (kept d sg u), 0 ≤ q ∧ q < 256 := bins_in
    have hwh : (256 ^ (size : Int).toNat + kept d sg u) = wholeOf size (kept d sg u) := (by rw [Int.toNat_natCast]; exact (if_neg (by (first | lia | omega))).symm)
    refine StepSrc.intro size rfl hF hN hR (down_small (n := size) (by (first | lia | omega)) (by (first | lia | omega))) (down_size (by (first | lia | omega))) (by rw [sizeLine_eq]; (first | lia | omega)) (fun k => ((256 ^ (size : Int).toNat + kept d sg u).fdiv (256 ^ k.toNat)).fmod 256) ?_ ?_
    · intro s₂ hs₂ i k t I oI C oC D m₂ ys h tk E' hi hk hC hx F₂ N₂ off ne hMk
      obtain ⟨h9, rfl⟩ := hs₂
      have hk2 : 0 ≤ k := by (first | lia | omega)
      have hk3 : k ≤ 8 := by (first | lia | omega)
      have hpw : (0 : Int) < 256 ^ k.toNat := Int.pow_pos (by decide)
      have hpn : (256 : Int) ^ k.toNat ≠ 0 := by (first | lia | omega)
      clear hF hN hR
      simp only [LCg.Off3, and_true] at off
      (try dsimp only)
      show wpAny _ _ _ _ _ _
      k_fold
      k_extra "my steps"
    · intro s₂ hs₂ ys hy D h tk F₂ N₂ off
      obtain ⟨h9, rfl⟩ := hs₂
      rw [bin_list hwh z1 hab] at hy
      clear hF hN hR
      (try dsimp only)
      (try k_fold)
      k_extra "my steps"
      exact Ends.plain (by k_asm) (by k_asm) (by kcj_all) ⟨rfl, _, rfl⟩
end
theorem wd28 : True := by
  k_with_none
  k_with "my fold" => (((first | (with_reducible show wpAny _ _ (exec (PySem.Stmt.Assign _ _ _) _) _ _ _) | (with_reducible show wpAny _ _ (exec (PySem.Stmt.Return _ _) _) _ _ _) | (with_reducible show wpAny _ _ (exec (PySem.Stmt.If _ _ _ _) _) _ _ _) | (with_reducible show wpAny _ _ (exec (PySem.Stmt.Expr _ _) _) _ _ _) | (with_reducible show wpAny _ _ (exec (PySem.Stmt.AugAssign _ _ _ _) _) _ _ _) | (with_reducible show wpAny _ _ (eval (PySem.Expr.BinOp _ _ _ _) _) _ _ _) | (with_reducible show wpAny _ _ (eval (PySem.Expr.Call _ _ _ _) _) _ _ _)); (fail_if_success (fail_if_success k_fold)); refine (let qk := _; keepQ qk ?_)))
  k_with "my get" => (assumption)
  k_with "mine call type:range" => ((k_here; (rename Fr _ _ _ _ => F'); (rename News _ _ _ _ => N'); (with_unfolding_all refine range1_rows F' N' ?_; intro _ _ _ _ _ _ _ _ _)))
  k_with "my steps" => (repeat' (first | ((fail_if_success (fail_if_success k_unfold)); (try dsimp only); refine (?_ : wpAny _ _ _ _ _ _)) | (k_unfold; (try dsimp only)) | k_extra "my fold" | ((fail_if_success (with_reducible show wpAny _ _ (pyIter _) (fun it s₂ => LoopAtV _ _ _ _ _ _ _ _ _ it s₂) _ _)); (fail_if_success (with_reducible show wpAny _ _ (pyIter _) (fun it s₂ => PairAt3 _ _ _ _ _ _ _ _ _ _ it s₂) _ _)); (fail_if_success (with_reducible show LoopStep3 _ _ _ _ _ _ _ _ _ _)); (fail_if_success (with_reducible show InvEndN _ _ _ _ _ _ _)); (fail_if_success (with_reducible show Ends _ _ _ _ _ _)); first | walk1 | (dsimp only; walk1) | (dsimp only; k_unfold; (try dsimp only)))))
  k_with "my plain steps" => (repeat' (first | ((fail_if_success (fail_if_success k_unfold)); (try dsimp only); refine (?_ : wpAny _ _ _ _ _ _)) | (k_unfold; (try dsimp only)) | ((fail_if_success (with_reducible show wpAny _ _ (pyIter _) (fun it s₂ => LoopAtV _ _ _ _ _ _ _ _ _ it s₂) _ _)); (fail_if_success (with_reducible show wpAny _ _ (pyIter _) (fun it s₂ => PairAt3 _ _ _ _ _ _ _ _ _ _ it s₂) _ _)); (fail_if_success (with_reducible show LoopStep3 _ _ _ _ _ _ _ _ _ _)); (fail_if_success (with_reducible show InvEndN _ _ _ _ _ _ _)); (fail_if_success (with_reducible show Ends _ _ _ _ _ _)); first | walk1 | (dsimp only; walk1) | (dsimp only; k_unfold; (try dsimp only)))))
  k_with "my bytes" => (first | exact all48 (by assumption) | (refine all_cons (by decide) ?_; k_extra "my bytes") | (refine all_snoc (by decide) ?_; k_extra "my bytes"))
  k_with "my size" => (first | (first | lia | omega) | ((try simp only [List.length_map, List.length_cons, List.length_append, List.length_nil, List.length_set, List.length_reverse, lits_length, figs_length, stepKs_length]); (first | lia | omega)))
  k_with "mine call type:bytes" => ((k_here; (with_reducible show wpAny _ _ (call (Value.type "bytes") [Value.ref _]) _ _ _); k_dflt (refine' bytesOf_K ?Fq350 ?Nq350 ?mq350 ?iq350 ?rq350 ?zq350 ?hq350 ?_; (case Fq350 => k_asm); (case Nq350 => k_asm); (case mq350 => k_mem); (case iq350 => assumption); (case rq350 => k_extra "my bytes"); (case zq350 => k_extra "my size"); (case hq350 => exact rfl); k_whole); intro h' t' k' F' N'; (try k_sweep)))
  k_with "my bytes" => ((refine all_set (u8_in _) ?_; k_extra "my bytes"))
  k_with "my byte at" => ((refine fig_at (by assumption) ?_; k_extra "my size"))
  k_with "mine subscriptTail" => ((k_here; (with_reducible show wpAny _ _ (subscriptTail _ _ (Value.bytes _ _) (Value.int _ _)) _ _ _); k_dflt (refine' bytesItem_K ?aq353 ?bq353 ?_ ?hsq353 ?htq353; (case aq353 => k_extra "my byte at"); (case bq353 => decide); (case hsq353 => with_unfolding_all rfl); (case htq353 => intro _; with_unfolding_all rfl))))
  k_with "my index" => (first | (first | lia | omega) | decide | assumption)
  k_with "mine compareOp In" => ((k_here; (with_reducible show wpAny _ _ (compareOp CmpOp.In (Value.int _ _) (Value.bytes _ _)) _ _ _); k_dflt (refine' in_bytes ?aq355 ?bq355 ?_; (case aq355 => (first | lia | omega)); (case bq355 => (first | lia | omega)))))
  k_with "mine getMethod" => ((k_here; (with_reducible show wpAny _ _ (getMethod (Value.bytes _ _) "index" _) _ _ _); refine index_method ?_))
  k_with "mine call builtin:bytes.index" => ((k_here; (with_reducible show wpAny _ _ (call (Value.builtin "bytes.index") [Value.bytes _ _, Value.int _ _]) _ _ _); k_dflt (refine' bytes_index _ ?aq357 ?bq357 ?cq357 ?dq357 ?_; (case aq357 => (first | lia | omega)); (case bq357 => (first | lia | omega)); (case cq357 => decide); (case dq357 => assumption)); intro _ _; (try dsimp only)))
  k_with "mine subscriptTail" => ((k_here; (with_reducible show wpAny _ _ (subscriptTail _ _ (Value.bytes (byteArr _) _) (Value.int _ _)) _ _ _); k_dflt (refine' bytesInt_K ?aq358 ?bq358 ?rq358 ?zq358 ?_ ?hsq358 ?htq358; (case aq358 => (first | lia | omega)); (case bq358 => assumption); (case rq358 => first | assumption | k_extra "my bytes"); (case zq358 => k_extra "my size"); (case hsq358 => with_unfolding_all rfl); (case htq358 => intro _; with_unfolding_all rfl)); intro _ _; (try dsimp only)))
  k_with "my pick" => ((with_reducible first | exact kmk_upto (by l_ints) (by (first | lia | omega)) | exact kmk_from (by l_ints) (by (first | lia | omega)) | exact kmk_upto_neg (by l_ints) (by (first | lia | omega)) | exact kmk_from_neg (by l_ints) (by (first | lia | omega))))
  k_with "mine subscriptTail Name Slice ref ref" => ((k_here; (with_reducible show wpAny _ _ (subscriptTail _ (PySem.Expr.Slice _ _ none _) (Value.ref _) (Value.ref _)) _ _ _); k_dflt (refine' kmk_slice_ints ?Fq360 ?Nq360 ?lq360 ?pq360 ?qq360 ?iq360 ?mq360 ?cq360 ?_ ?sq360 ?tq360 ?zq360; (case Fq360 => k_asm); (case Nq360 => k_asm); (case lq360 => kmk_list); (case pq360 => kmk_part); (case qq360 => kmk_part); (case iq360 => l_ints); (case mq360 => k_extra "my pick"); (case cq360 => kmk_len); (case sq360 => with_unfolding_all rfl); (case tq360 => kmk_pure); (case zq360 => kmk_size)); intro D' ws' h' F' N' l1 hI' hC' hL'; (try k_lt l1); (try k_sweep)))
  k_with "my ints" => (first | l_ints | exact IntsAre.cons _ _ IntsAre.nil | exact IntsAre.cons _ _ (IntsAre.cons _ _ IntsAre.nil))
  k_with "mine binaryOp Add ref ref" => ((k_here; (with_reducible show wpAny _ _ (binaryOp _ (Value.ref _) (Value.ref _)) _ _ _); k_dflt (refine' kmk_add_ints ?Fq362 ?Nq362 ?aq362 ?bq362 ?iq362 ?jq362 ?_ ?zq362; (case Fq362 => k_asm); (case Nq362 => k_asm); (case aq362 => kmk_list); (case bq362 => kmk_list); (case iq362 => k_extra "my ints"); (case jq362 => k_extra "my ints"); (case zq362 => first | ((simp only [sizeLine_eq]); k_extra "my size") | kmk_sum)); intro D' ws' h' F' N' l1 hI'; (try k_lt l1); (try k_sweep)))
  k_with "mine call builtin:len" => ((k_here; (with_reducible show wpAny _ _ (call (Value.builtin "len") [Value.bytes (byteArr _) _]) _ _ _); k_dflt (refine' len_byteArr ?zq363 ?_; (case zq363 => k_extra "my size")); intro _ _; (try dsimp only)))
  k_with "mine call builtin:ord" => ((k_here; (with_reducible show wpAny _ _ (call (Value.builtin "ord") [Value.str _ _]) _ _ _); refine ord_of_char ?_; (try dsimp only)))
  k_with "my text slice" => (((with_reducible rename Fr _ _ _ _ => F'); (with_reducible rename News _ _ _ _ => N'); first | ((with_reducible show wpAny _ _ (subscriptTail _ (Expr.Slice none (some _) none _) _ _) _ _ _); (refine slice_strN_ns_len (hsz := ?hszq365) (s := ⟨_, _, _, _, _⟩) F' N' ?_); (case hszq365 => rw [sizeLine_eq]; (first | lia | omega))) | ((with_reducible show wpAny _ _ (subscriptTail _ (Expr.Slice (some _) none none _) _ _) _ _ _); (refine slice_strN_sn_len (hsz := ?hszq365) (s := ⟨_, _, _, _, _⟩) F' N' ?_); (case hszq365 => rw [sizeLine_eq]; (first | lia | omega)))))
  k_with "my units" => (((try simp only [units_in1, units_deeper, Around.mark_units]); (try dsimp only [ktrTop]); (first | lia | omega)))
  k_with "my tail" => ((first | assumption | (refine' And.right ?_; first | assumption | (refine' And.right ?_; first | assumption | (refine' And.right ?_; first | assumption | (refine' And.right ?_; first | assumption | (refine' And.right ?_; first | assumption | (refine' And.right ?_; first | assumption | (refine' And.right ?_; first | assumption | (refine' And.right ?_; first | assumption | (refine' And.right ?_; assumption)))))))))))
  k_with "my conj" => (first | k_extra "my tail" | (refine' And.left ?_; k_extra "my tail") | (refine' And.left ?_; refine' And.left ?_; k_extra "my tail") | (refine' And.right ?_; refine' And.left ?_; k_extra "my tail"))
  k_with "my ne" => ((refine neN ?_; (try dsimp only); first | (refine' Nat.ne_of_lt ?_; k_extra "my conj") | (refine' Nat.ne_of_gt ?_; k_extra "my conj") | k_extra "my conj" | (refine' Ne.symm ?_; k_extra "my conj") | (first | lia | omega)))
  k_with "my sides" => (((case k1 => k_asm); (case k2 => k_asm); (case k3 => k_asm); (case k4 => k_asm); (case k5 => k_asm); (case kK => first | assumption | exact rfl); (case ks => kcj_all); (case kd => first | ((try simp only [depth_mark, depth_under_make, depth_under_kw, depth_in1, depth_deeper]); (try dsimp only [ktrTop]); first | (refine' room3 ?hhq370 ?llq370; (case hhq370 => assumption); (case llq370 => exact Nat.le_of_ble_eq_true rfl)) | (first | lia | omega)) | (with_unfolding_all exact Nat.le_of_ble_eq_true rfl)); (case ku => first | ((try simp only [units_in1, units_deeper, Around.mark_units]); (try dsimp only [ktrTop]); first | (refine' room3 ?hhq370 ?llq370; (case hhq370 => assumption); (case llq370 => exact Nat.le_of_ble_eq_true rfl)) | (first | lia | omega)) | (with_unfolding_all exact Nat.le_of_ble_eq_true rfl))))
  k_with "mine call ref" => ((k_here; (with_reducible show wpAny _ _ (call (Value.ref 530) _) _ _ _); k_dflt (refine' Spec.use0 (law_kept_spec _ _ _ _ _ _ ?c0q371) ?k1 ?k2 ?k3 ?k4 ?k5 ?kK ?ks ?kd ?ku ?_; (case c0q371 => (first | lia | omega)); k_extra "my sides"; intro t' h' tk' F' N'; (try k_sweep); (try dsimp only))))
  k_with "mine call ref" => ((k_here; (with_reducible show wpAny _ _ (call (Value.ref 523) _) _ _ _); k_dflt (refine' Spec.use0 (law_figures_int _ _ _ _ _ ?c0q372 ?c1q372 ?c2q372 ?c3q372) ?k1 ?k2 ?k3 ?k4 ?k5 ?kK ?ks ?kd ?ku ?_; (case c0q372 => (first | (first | lia | omega) | (split <;> (first | lia | omega)))); (case c1q372 => (first | lia | omega)); (case c2q372 => (first | lia | omega)); (case c3q372 => (k_extra "my figures")); k_extra "my sides"; intro t' h' tk' F' N'; (try k_sweep); (try dsimp only))))
  trivial
section
theorem wd29 : True := by
  k_with "mine eval IfExp" => ((k_here; (rename CutMark => hHM); refine Held.mk ?_))
  k_with "my figures" => (assumption)
  k_with "my bytes" => (assumption)
  k_with "mine eval ListComp" => ((k_here; k_dflt (refine ListComp_step (F₀ := by k_asm) (by with_unfolding_all rfl) (by decide) (by rfl) (by decide) (by rfl) ?_ (fun _ => rfl))))
  trivial
def hexCh (v : Nat) : Nat := if v < 10 then 48 + v else 87 + v
theorem hex_index : ∀ v : Nat, v < 16 → Builtin.Str.occurrences (Str.ofString "0123456789abcdef") ⟨#[hexCh v]⟩ 0 (Str.ofString "0123456789abcdef").length 1 = [v] := by decide +kernel
theorem hex_at {m n mk j : Nat} {z : Str} (hz : z = ⟨#[hexCh mk]⟩) (hm : mk < 16) (hj : j < m + 1) : ∃ z', Txt.item (figText m n ++ z) (j : Int) = z' ∧ ∃ v : Nat, Builtin.Str.occurrences (Str.ofString "0123456789abcdef") z' 0 (Str.ofString "0123456789abcdef").length 1 = [v] ∧ (v : Int) = ((figs 10 m n).map Int.ofNat ++ [(mk : Int)]).getD j 0 := by
  subst hz
  have hl : ((figs 10 m n).map Int.ofNat).length = m := by rw [List.length_map, figs_length]
  have hcps : (figText m n ++ ⟨#[hexCh mk]⟩).cps.toList = (figs 10 m n).map (48 + ·) ++ [hexCh mk] := KT.app_list _ _
  have hlen : ((figs 10 m n).map (48 + ·)).length = m := by rw [List.length_map, figs_length]
  have key : ∃ v, v < 16 ∧ (figText m n ++ ⟨#[hexCh mk]⟩).cps[j]? = some (hexCh v) ∧ (v : Int) = ((figs 10 m n).map Int.ofNat ++ [(mk : Int)]).getD j 0 := by
    rw [← Array.getElem?_toList, hcps, List.getD_eq_getElem?_getD]
    by_cases h : j < m
    · have hfl : j < (figs 10 m n).length := by rw [figs_length]; exact h
      have hlt := figs_lt (b := 10) (by decide) m n _ (List.getElem_mem hfl)
      refine ⟨(figs 10 m n)[j], by (first | lia | omega), ?_, ?_⟩
      · rw [List.getElem?_append_left (by rw [hlen]; exact h), List.getElem?_map, List.getElem?_eq_getElem hfl]
        show some (48 + _) = some (hexCh _)
        rw [hexCh, if_pos hlt]
      · rw [List.getElem?_append_left (by rw [hl]; exact h), List.getElem?_map, List.getElem?_eq_getElem hfl]; rfl
    · have hj' : j = m := by (first | lia | omega)
      subst hj'
      refine ⟨mk, hm, ?_, ?_⟩
      · rw [List.getElem?_append_right (by (first | lia | omega)), hlen, Nat.sub_self]; rfl
      · rw [List.getElem?_append_right (by (first | lia | omega)), hl, Nat.sub_self]; rfl
  obtain ⟨v, hv, h1, h2⟩ := key
  exact ⟨_, item_at h1 (.inl rfl), v, hex_index v hv, h2⟩
section
variable {prog : Program} {w : World} {A : Around} {E : Value → Shared → Prop} {s : Shared} {x y : Str} {t u : Tok} {Q : Value → Shared → Prop}
theorem idxInt {i : Nat} {rest : List Nat} {c : Int} (ho : Builtin.Str.occurrences x y 0 x.length 1 = i :: rest) (hc : (i : Int) = c) (h : ∀ t' k, Q (.int c t') { s with toks := k }) : wpAny (model prog w) A (call (.builtin "str.index") [.str x t, .str y u]) Q E s := by
  subst hc
  exact SC.index ho (h _ _)
end
theorem wd30 : True := by
  k_with "mine call builtin:str.index" => ((k_here; (refine idxInt (by assumption) (by assumption) ?_); intro _ _; (try dsimp only)))
  k_with "mine subscriptTail Name Name str int" => ((k_here; (with_reducible show wpAny _ _ (subscriptTail _ _ (Value.str _ _) (Value.int _ _)) _ _ _); (refine textItem (by assumption) (by first | exact neg_le _ (by assumption) | (first | lia | omega)) (by first | assumption | (first | lia | omega)) (by (first | lia | omega)) ?_); intro _ _))
  k_with "mine subscriptTail Name BinOp str int" => ((k_here; (with_reducible show wpAny _ _ (subscriptTail _ _ (Value.str _ _) (Value.int _ _)) _ _ _); (refine textItem (by assumption) (by first | exact neg_le _ (by assumption) | (first | lia | omega)) (by first | assumption | (first | lia | omega)) (by (first | lia | omega)) ?_); intro _ _))
  k_with "mine subscriptTail" => ((k_here; (with_reducible show wpAny _ _ (subscriptTail _ _ (Value.str _ _) (Value.int _ _)) _ _ _); (refine textItem (by assumption) (by first | exact neg_le _ (by assumption) | (first | lia | omega)) (by first | assumption | (first | lia | omega)) (by (first | lia | omega)) ?_); intro _ _))
  trivial
def markNat (sg : Bool) (u : Int) : Nat := if sg = true then (if u < 0 then 13 else 12) else 15
def markText (sg : Bool) (u : Int) : Str := if sg = true then (if u < 0 then Str.ofString "d" else Str.ofString "c") else Str.ofString "f"
theorem mark_facts (sg : Bool) (u : Int) : ((markNat sg u : Nat) : Int) = packMark sg u ∧ markText sg u = ⟨#[hexCh (markNat sg u)]⟩ ∧ markNat sg u < 16 ∧ (markText sg u).length = 1 := by
  unfold markNat markText packMark
  cases sg
  · simp only [Bool.false_eq_true, if_false]; decide
  · by_cases h : u < 0
    · simp only [h, if_true]; decide
    · simp only [h, if_true, if_false]; decide
theorem step_in {n size i : Nat} {k : Int} (hl : n = 2 * size) (hi : i < size) (hk : k = 0 + (i : Int) * 2) : 0 ≤ k ∧ k < (n : Int) ∧ 0 ≤ k + 1 ∧ k + 1 < (n : Int) := by (first | lia | omega)
theorem lt_to {k : Int} {m size : Nat} (h0 : 0 ≤ k) (h : k < ((2 * size : Nat) : Int)) (h1 : 1 ≤ size) (hm : m = (2 * (size : Int) - 1).toNat) : k.toNat < m + 1 := by
  rw [hm, nat2]
  have := (Int.toNat_lt h0).mpr h
  (first | lia | omega)
theorem neg_le {k : Int} (n : Nat) (h : 0 ≤ k) : -(n : Int) ≤ k := Int.le_trans (Int.neg_nonpos_of_nonneg (Int.natCast_nonneg n)) h
theorem pack_list {size : Nat} {sg : Bool} {u : Int} {mk : Nat} (hm : (mk : Int) = packMark sg u) : (stepKs 0 2 size).map (fun k => 16 * ((figs 10 (2 * (size : Int) - 1).toNat (if u < 0 then -u else u).toNat).map Int.ofNat ++ [(mk : Int)]).getD k.toNat 0 + ((figs 10 (2 * (size : Int) - 1).toNat (if u < 0 then -u else u).toNat).map Int.ofNat ++ [(mk : Int)]).getD (k + 1).toNat 0) = packOct size sg u := by
  rw [hm, absNat, packOct, nat2]
theorem law_laid_pack (w : World) (ts td tz tu : Tok) (d size : Nat) (sg : Bool) (u : Int) (h1 : d ≤ 18) (hz : size = d / 2 + 1) :
    Spec w (hd.heap_1 w.params) 535 [.str (Str.ofString "packed") ts, .int size tz, .int d td, .bool sg, .int u tu] [] 3 (fun v new => new = [] ∧ ∃ t, v = .bytes (byteArr (packOct size sg (kept d sg u))) t) := by
  obtain ⟨hk1, hk2⟩ := kept_keeps d sg u
  have hlt : (if kept d sg u < 0 then -kept d sg u else kept d sg u).toNat < 10 ^ (2 * (size : Int) - 1).toNat := by
    rw [absNat]
    exact Nat.lt_of_lt_of_le hk1 (Nat.pow_le_pow_right (by decide) (by (first | lia | omega)))
  have hft : (figText (2 * (size : Int) - 1).toNat (if kept d sg u < 0 then -kept d sg u else kept d sg u).toNat).length ≤ 20 := by rw [figText_length]; (first | lia | omega)
  unfold Spec
  intro dp un gd cn cs a ccd cl outer A₀ base h₀ L m mg mb mean news s Q E B F X N T hk hs hroom hun ret
  refine enterCC (binds := [(Str.ofString "kind", .str (Str.ofString "packed") ts), (Str.ofString "size", .int size tz), (Str.ofString "digits", .int d td), (Str.ofString "is_signed", .bool sg), (Str.ofString "units", .int u tu)]) B F X N T rfl rfl hk hs (by k_is) (by k_is) (show dp < recursionLimit from Nat.lt_of_le_of_lt (Nat.le_add_right _ _) hroom) (BindsTo.of_eq rfl) rfl (by decide +kernel) ret ?_ rfl rfl rfl
  clear B F X N T ret hs
  intro g L' h₁ gs5 dr5 tk os5 cells F' N' Y' B' X' T' l1
  (try k_lt l1); k_cells Y'; (try simp only [List.cons_append, List.nil_append] at N')
  (try dsimp only)
  show wpAny _ _ _ _ _ _
  k_fold
  have hHM : CutMark := CutMark.mk
  k_extra "my steps"
  unfold Held
  clear hHM
  rename Fr _ _ _ _ => hF
  rename News _ _ _ _ => hN
  obtain ⟨hmk, hz, hm16, hzl⟩ := mark_facts sg (kept d sg u)
  refine cut_at (fun v => ∃ t, v = .str (markText sg (kept d sg u)) t) hF hN ?_ ?_
  · cases sg
    · k_extra "my steps"
      exact CutEnd.intro (by k_asm) (by k_asm) (fun _ h => h) ⟨_, rfl⟩
    · by_cases hu : kept d true u < 0
      · rw [show markText true (kept d true u) = Str.ofString "d" from (if_pos rfl).trans (if_pos hu)]
        k_extra "my steps"
        exact CutEnd.intro (by k_asm) (by k_asm) (fun _ h => h) ⟨_, rfl⟩
      · rw [show markText true (kept d true u) = Str.ofString "c" from (if_pos rfl).trans (if_neg hu)]
        k_extra "my steps"
        exact CutEnd.intro (by k_asm) (by k_asm) (fun _ h => h) ⟨_, rfl⟩
  intro v6 h6 k6 ⟨t6, hv6⟩ F6 N6
  subst hv6
  clear hF hN
  generalize markNat sg (kept d sg u) = mk at hmk hz hm16
  generalize markText sg (kept d sg u) = z at hz hzl F6 ⊢
  show wpAny _ _ _ _ _ _
  (try k_fold)
  k_extra "my steps"
  all_goals (
    rename IsRange _ _ _ _ _ _ _ _ => hR
    rename Fr _ _ _ _ => hF
    rename News _ _ _ _ => hN
    have hBl : (packOct size sg (kept d sg u)).length = size := packOct_length
    have hBi : ∀ q ∈ packOct size sg (kept d sg u), 0 ≤ q ∧ q < 256 := pack_bytes
    have h2 : 1 ≤ size := by (first | lia | omega)
    have hHl : (figText (2 * (size : Int) - 1).toNat (if kept d sg u < 0 then -kept d sg u else kept d sg u).toNat ++ z).length = 2 * size := by
      rw [Str.length_append, figText_length, hzl, nat2]; (first | lia | omega)
    refine StepSrc.intro size rfl hF hN hR (small_two' (n := size) (by (first | lia | omega)) rfl) (rangeSize_two' rfl) (by rw [sizeLine_eq]; (first | lia | omega)) (fun k => 16 * ((figs 10 (2 * (size : Int) - 1).toNat (if kept d sg u < 0 then -kept d sg u else kept d sg u).toNat).map Int.ofNat ++ [(mk : Int)]).getD k.toNat 0 + ((figs 10 (2 * (size : Int) - 1).toNat (if kept d sg u < 0 then -kept d sg u else kept d sg u).toNat).map Int.ofNat ++ [(mk : Int)]).getD (k + 1).toNat 0) ?_ ?_
    · intro s₂ hs₂ i k t I oI C oC D m₂ ys h tk E' hi hk hC hx F₂ N₂ off ne hMk
      obtain ⟨h9, rfl⟩ := hs₂
      obtain ⟨g1, g2, g3, g4⟩ := step_in hHl hi hk
      obtain ⟨z1, hz1, v1, ho1, hv1⟩ := hex_at (m := (2 * (size : Int) - 1).toNat) (n := (if kept d sg u < 0 then -kept d sg u else kept d sg u).toNat) (mk := mk) (j := k.toNat) (z := z) hz hm16 (lt_to g1 (hHl ▸ g2) h2 rfl)
      obtain ⟨z2, hz2, v2, ho2, hv2⟩ := hex_at (m := (2 * (size : Int) - 1).toNat) (n := (if kept d sg u < 0 then -kept d sg u else kept d sg u).toNat) (mk := mk) (j := (k + 1).toNat) (z := z) hz hm16 (lt_to g3 (hHl ▸ g4) h2 rfl)
      rw [Int.toNat_of_nonneg g1] at hz1
      rw [Int.toNat_of_nonneg g3] at hz2
      clear hF hN hR
      simp only [LCg.Off3, and_true] at off
      (try dsimp only)
      show wpAny _ _ _ _ _ _
      k_fold
      k_extra "my steps"
    · intro s₂ hs₂ ys hy D h tk F₂ N₂ off
      obtain ⟨h9, rfl⟩ := hs₂
      rw [pack_list hmk] at hy
      clear hF hN hR
      (try dsimp only)
      (try k_fold)
      k_extra "my steps"
      exact Ends.plain (by k_asm) (by k_asm) (by kcj_all) ⟨rfl, _, rfl⟩)
end
theorem wd31 : True := by
  k_with_none
  k_with "my fold" => (((first | (with_reducible show wpAny _ _ (exec (PySem.Stmt.Assign _ _ _) _) _ _ _) | (with_reducible show wpAny _ _ (exec (PySem.Stmt.Return _ _) _) _ _ _) | (with_reducible show wpAny _ _ (exec (PySem.Stmt.If _ _ _ _) _) _ _ _) | (with_reducible show wpAny _ _ (exec (PySem.Stmt.Expr _ _) _) _ _ _) | (with_reducible show wpAny _ _ (exec (PySem.Stmt.AugAssign _ _ _ _) _) _ _ _) | (with_reducible show wpAny _ _ (eval (PySem.Expr.BinOp _ _ _ _) _) _ _ _) | (with_reducible show wpAny _ _ (eval (PySem.Expr.Call _ _ _ _) _) _ _ _)); (fail_if_success (fail_if_success k_fold)); refine (let qk := _; keepQ qk ?_)))
  k_with "my get" => (assumption)
  k_with "mine call type:range" => ((k_here; (rename Fr _ _ _ _ => F'); (rename News _ _ _ _ => N'); (with_unfolding_all refine range1_rows F' N' ?_; intro _ _ _ _ _ _ _ _ _)))
  k_with "my steps" => (repeat' (first | ((fail_if_success (fail_if_success k_unfold)); (try dsimp only); refine (?_ : wpAny _ _ _ _ _ _)) | (k_unfold; (try dsimp only)) | k_extra "my fold" | ((fail_if_success (with_reducible show wpAny _ _ (pyIter _) (fun it s₂ => LoopAtV _ _ _ _ _ _ _ _ _ it s₂) _ _)); (fail_if_success (with_reducible show wpAny _ _ (pyIter _) (fun it s₂ => PairAt3 _ _ _ _ _ _ _ _ _ _ it s₂) _ _)); (fail_if_success (with_reducible show LoopStep3 _ _ _ _ _ _ _ _ _ _)); (fail_if_success (with_reducible show InvEndN _ _ _ _ _ _ _)); (fail_if_success (with_reducible show Ends _ _ _ _ _ _)); first | walk1 | (dsimp only; walk1) | (dsimp only; k_unfold; (try dsimp only)))))
  k_with "my plain steps" => (repeat' (first | ((fail_if_success (fail_if_success k_unfold)); (try dsimp only); refine (?_ : wpAny _ _ _ _ _ _)) | (k_unfold; (try dsimp only)) | ((fail_if_success (with_reducible show wpAny _ _ (pyIter _) (fun it s₂ => LoopAtV _ _ _ _ _ _ _ _ _ it s₂) _ _)); (fail_if_success (with_reducible show wpAny _ _ (pyIter _) (fun it s₂ => PairAt3 _ _ _ _ _ _ _ _ _ _ it s₂) _ _)); (fail_if_success (with_reducible show LoopStep3 _ _ _ _ _ _ _ _ _ _)); (fail_if_success (with_reducible show InvEndN _ _ _ _ _ _ _)); (fail_if_success (with_reducible show Ends _ _ _ _ _ _)); first | walk1 | (dsimp only; walk1) | (dsimp only; k_unfold; (try dsimp only)))))
  k_with "my bytes" => (first | exact all48 (by assumption) | (refine all_cons (by decide) ?_; k_extra "my bytes") | (refine all_snoc (by decide) ?_; k_extra "my bytes"))
  k_with "my size" => (first | (first | lia | omega) | ((try simp only [List.length_map, List.length_cons, List.length_append, List.length_nil, List.length_set, List.length_reverse, lits_length, figs_length, stepKs_length]); (first | lia | omega)))
  k_with "mine call type:bytes" => ((k_here; (with_reducible show wpAny _ _ (call (Value.type "bytes") [Value.ref _]) _ _ _); k_dflt (refine' bytesOf_K ?Fq388 ?Nq388 ?mq388 ?iq388 ?rq388 ?zq388 ?hq388 ?_; (case Fq388 => k_asm); (case Nq388 => k_asm); (case mq388 => k_mem); (case iq388 => assumption); (case rq388 => k_extra "my bytes"); (case zq388 => k_extra "my size"); (case hq388 => exact rfl); k_whole); intro h' t' k' F' N'; (try k_sweep)))
  k_with "my bytes" => ((refine all_set (u8_in _) ?_; k_extra "my bytes"))
  k_with "my byte at" => ((refine fig_at (by assumption) ?_; k_extra "my size"))
  k_with "mine subscriptTail" => ((k_here; (with_reducible show wpAny _ _ (subscriptTail _ _ (Value.bytes _ _) (Value.int _ _)) _ _ _); k_dflt (refine' bytesItem_K ?aq391 ?bq391 ?_ ?hsq391 ?htq391; (case aq391 => k_extra "my byte at"); (case bq391 => decide); (case hsq391 => with_unfolding_all rfl); (case htq391 => intro _; with_unfolding_all rfl))))
  k_with "my index" => (first | (first | lia | omega) | decide | assumption)
  k_with "mine compareOp In" => ((k_here; (with_reducible show wpAny _ _ (compareOp CmpOp.In (Value.int _ _) (Value.bytes _ _)) _ _ _); k_dflt (refine' in_bytes ?aq393 ?bq393 ?_; (case aq393 => (first | lia | omega)); (case bq393 => (first | lia | omega)))))
  k_with "mine getMethod" => ((k_here; (with_reducible show wpAny _ _ (getMethod (Value.bytes _ _) "index" _) _ _ _); refine index_method ?_))
  k_with "mine call builtin:bytes.index" => ((k_here; (with_reducible show wpAny _ _ (call (Value.builtin "bytes.index") [Value.bytes _ _, Value.int _ _]) _ _ _); k_dflt (refine' bytes_index _ ?aq395 ?bq395 ?cq395 ?dq395 ?_; (case aq395 => (first | lia | omega)); (case bq395 => (first | lia | omega)); (case cq395 => decide); (case dq395 => assumption)); intro _ _; (try dsimp only)))
  k_with "mine subscriptTail" => ((k_here; (with_reducible show wpAny _ _ (subscriptTail _ _ (Value.bytes (byteArr _) _) (Value.int _ _)) _ _ _); k_dflt (refine' bytesInt_K ?aq396 ?bq396 ?rq396 ?zq396 ?_ ?hsq396 ?htq396; (case aq396 => (first | lia | omega)); (case bq396 => assumption); (case rq396 => first | assumption | k_extra "my bytes"); (case zq396 => k_extra "my size"); (case hsq396 => with_unfolding_all rfl); (case htq396 => intro _; with_unfolding_all rfl)); intro _ _; (try dsimp only)))
  k_with "my pick" => ((with_reducible first | exact kmk_upto (by l_ints) (by (first | lia | omega)) | exact kmk_from (by l_ints) (by (first | lia | omega)) | exact kmk_upto_neg (by l_ints) (by (first | lia | omega)) | exact kmk_from_neg (by l_ints) (by (first | lia | omega))))
  k_with "mine subscriptTail Name Slice ref ref" => ((k_here; (with_reducible show wpAny _ _ (subscriptTail _ (PySem.Expr.Slice _ _ none _) (Value.ref _) (Value.ref _)) _ _ _); k_dflt (refine' kmk_slice_ints ?Fq398 ?Nq398 ?lq398 ?pq398 ?qq398 ?iq398 ?mq398 ?cq398 ?_ ?sq398 ?tq398 ?zq398; (case Fq398 => k_asm); (case Nq398 => k_asm); (case lq398 => kmk_list); (case pq398 => kmk_part); (case qq398 => kmk_part); (case iq398 => l_ints); (case mq398 => k_extra "my pick"); (case cq398 => kmk_len); (case sq398 => with_unfolding_all rfl); (case tq398 => kmk_pure); (case zq398 => kmk_size)); intro D' ws' h' F' N' l1 hI' hC' hL'; (try k_lt l1); (try k_sweep)))
  k_with "my ints" => (first | l_ints | exact IntsAre.cons _ _ IntsAre.nil | exact IntsAre.cons _ _ (IntsAre.cons _ _ IntsAre.nil))
  k_with "mine binaryOp Add ref ref" => ((k_here; (with_reducible show wpAny _ _ (binaryOp _ (Value.ref _) (Value.ref _)) _ _ _); k_dflt (refine' kmk_add_ints ?Fq400 ?Nq400 ?aq400 ?bq400 ?iq400 ?jq400 ?_ ?zq400; (case Fq400 => k_asm); (case Nq400 => k_asm); (case aq400 => kmk_list); (case bq400 => kmk_list); (case iq400 => k_extra "my ints"); (case jq400 => k_extra "my ints"); (case zq400 => first | ((simp only [sizeLine_eq]); k_extra "my size") | kmk_sum)); intro D' ws' h' F' N' l1 hI'; (try k_lt l1); (try k_sweep)))
  k_with "mine call builtin:len" => ((k_here; (with_reducible show wpAny _ _ (call (Value.builtin "len") [Value.bytes (byteArr _) _]) _ _ _); k_dflt (refine' len_byteArr ?zq401 ?_; (case zq401 => k_extra "my size")); intro _ _; (try dsimp only)))
  k_with "mine call builtin:ord" => ((k_here; (with_reducible show wpAny _ _ (call (Value.builtin "ord") [Value.str _ _]) _ _ _); refine ord_of_char ?_; (try dsimp only)))
  k_with "my text slice" => (((with_reducible rename Fr _ _ _ _ => F'); (with_reducible rename News _ _ _ _ => N'); first | ((with_reducible show wpAny _ _ (subscriptTail _ (Expr.Slice none (some _) none _) _ _) _ _ _); (refine slice_strN_ns_len (hsz := ?hszq403) (s := ⟨_, _, _, _, _⟩) F' N' ?_); (case hszq403 => rw [sizeLine_eq]; (first | lia | omega))) | ((with_reducible show wpAny _ _ (subscriptTail _ (Expr.Slice (some _) none none _) _ _) _ _ _); (refine slice_strN_sn_len (hsz := ?hszq403) (s := ⟨_, _, _, _, _⟩) F' N' ?_); (case hszq403 => rw [sizeLine_eq]; (first | lia | omega)))))
  k_with "my units" => (((try simp only [units_in1, units_deeper, Around.mark_units]); (try dsimp only [ktrTop]); (first | lia | omega)))
  k_with "my tail" => ((first | assumption | (refine' And.right ?_; first | assumption | (refine' And.right ?_; first | assumption | (refine' And.right ?_; first | assumption | (refine' And.right ?_; first | assumption | (refine' And.right ?_; first | assumption | (refine' And.right ?_; first | assumption | (refine' And.right ?_; first | assumption | (refine' And.right ?_; first | assumption | (refine' And.right ?_; assumption)))))))))))
  k_with "my conj" => (first | k_extra "my tail" | (refine' And.left ?_; k_extra "my tail") | (refine' And.left ?_; refine' And.left ?_; k_extra "my tail") | (refine' And.right ?_; refine' And.left ?_; k_extra "my tail"))
  k_with "my ne" => ((refine neN ?_; (try dsimp only); first | (refine' Nat.ne_of_lt ?_; k_extra "my conj") | (refine' Nat.ne_of_gt ?_; k_extra "my conj") | k_extra "my conj" | (refine' Ne.symm ?_; k_extra "my conj") | (first | lia | omega)))
  k_with "my sides" => (((case k1 => k_asm); (case k2 => k_asm); (case k3 => k_asm); (case k4 => k_asm); (case k5 => k_asm); (case kK => first | assumption | exact rfl); (case ks => kcj_all); (case kd => first | ((try simp only [depth_mark, depth_under_make, depth_under_kw, depth_in1, depth_deeper]); (try dsimp only [ktrTop]); first | (refine' room3 ?hhq408 ?llq408; (case hhq408 => assumption); (case llq408 => exact Nat.le_of_ble_eq_true rfl)) | (first | lia | omega)) | (with_unfolding_all exact Nat.le_of_ble_eq_true rfl)); (case ku => first | ((try simp only [units_in1, units_deeper, Around.mark_units]); (try dsimp only [ktrTop]); first | (refine' room3 ?hhq408 ?llq408; (case hhq408 => assumption); (case llq408 => exact Nat.le_of_ble_eq_true rfl)) | (first | lia | omega)) | (with_unfolding_all exact Nat.le_of_ble_eq_true rfl))))
  trivial
section
/-- the end of an __init__: the new object and its dict may have changed -/
def EndsI (g : Heap) (sub : List (Addr × Obj)) (P : List (Addr × Obj) → Prop) (v : Value) (s s' : Shared) : Prop :=
  v = .none ∧ ∃ L' m' news' new, s' = { s with heap := s'.heap, toks := s'.toks } ∧ Fr g L' s'.heap m' ∧ News g L' s'.heap news' ∧ (∀ p ∈ sub, p ∈ news') ∧ (∀ p ∈ new, p ∈ news') ∧ (∀ q ∈ sub, ∀ p ∈ new, p.1 ≠ q.1) ∧ P new
theorem EndsI.intro {g h' : Heap} {sub news' : List (Addr × Obj)} {P : List (Addr × Obj) → Prop} {h₁ : Heap} {gs : Array GenState} {dr : Drawn} {tk₁ : Nat} {os : OsState} {L' : Addr} {m' : Str → Option Value} {tk : Nat} (new : List (Addr × Obj))
    (F : Fr g L' h' m') (N : News g L' h' news') (hs : ∀ p ∈ sub, p ∈ news') (hn : ∀ p ∈ new, p ∈ news') (hd : ∀ q ∈ sub, ∀ p ∈ new, p.1 ≠ q.1) (hp : P new) : EndsI g sub P .none ⟨h₁, gs, dr, tk₁, os⟩ ⟨h', gs, dr, tk, os⟩ :=
  ⟨rfl, L', m', news', new, rfl, F, N, hs, hn, hd, hp⟩
section
variable {w : World} {A₀ A : Around} {s : Shared} {base h₀ : Heap} {outer : List Env} {L : Addr} {m mg mb : Str → Option Value} {mean : ExcName → Option Value} {env : Env} {news sub : List (Addr × Obj)} {K : Frag} {prog : Program}
  {Q E : Value → Shared → Prop} {P : Addr → List (Addr × Obj) → Prop} {name qual : Str} {params : Arguments} {body : List Stmt} {scope : Scope} {dV kV doc pm cdv ct oc : Value} {an od : Option Addr} {osl : Array (Option Value)} {C fI : Addr} {pos : List Value} {binds : Addr → List (Str × Value)}
theorem enterI (B : Below A₀ base outer h₀) (F : Fr h₀ L s.heap m) (X₀ : K.In h₀) (N : News h₀ L s.heap news) (T : Top lawQ lawLoose mean mg mb h₀) (hA : A.frames = some (env :: outer)) (hf : env.frame = some L) (hke : env.scope.kind = .function)
    (hs : ∀ p ∈ sub, p ∈ news) (hm : makesIn K C = true) (hi : findIn K (.ref C) "__init__" = some (some (.ref fI))) (hfn : isFn K (.ref fI) = true)
    (ho : K.lookup fI = some ⟨oc, od, .func (fnOf name qual params body scope dV kV doc pm an cdv ct), osl⟩) (hcd : codeIn K cdv qual = true) (hroom : (A.under (.builtin "type.__call__" ⟨.ref C :: pos, []⟩)).depth < recursionLimit)
    (hbind : ∀ x h', K.In h' → BindsTo { s with heap := h' } (fnOf name qual params body scope dV kV doc pm an cdv ct) ⟨.ref x :: pos, []⟩ (binds x)) (hloc : ∀ x, ∀ y ∈ binds x, scope.names.lookup y.1 = some .local)
    (ret : ∀ x new h' tk', Fr h₀ L h' m → News h₀ L h' (new ++ news) → (∀ q ∈ news, ∀ p ∈ new, p.1 ≠ q.1) → P x new → Q (.ref x) { s with heap := h', toks := tk' })
    (h : ∀ x dx g L' h₁ gs dr tk os, @LT.lt Nat _ dx x → Fr g L' h₁ (fun y => (binds x).reverse.lookup y) → News g L' h₁ ((x, instObj C dx) :: (dx, dictOf [] 0) :: sub) → Below (A.under (.builtin "type.__call__" ⟨.ref C :: pos, []⟩)) base (env :: outer) g → K.In g → Top lawQ lawLoose mean mg mb g → (∀ p ∈ sub, @LT.lt Nat _ p.1 dx) → @LT.lt Nat _ x L' →
      wpAny (model prog w) ((A.under (.builtin "type.__call__" ⟨.ref C :: pos, []⟩)).deeper (envOf qual scope L' fI cdv)) (execs body (envOf qual scope L' fI cdv)) (fun fl s' => EndsI g sub (P x) (match fl with | .ret v => v | _ => .none) ⟨h₁, gs, dr, tk, os⟩ s') (fun _ _ => False) ⟨h₁, gs, dr, tk, os⟩)
    (hco : scope.isCoroutine = false) (hgen : scope.isGenerator = false) (hk : scope.kind = .function)
    (hcell : ∀ x ∈ scope.names, x.2 ≠ .cell) : wpAny (model prog w) A (call (.ref C) pos) Q E s := by
  refine call_cls F X₀ N hm hi hfn fun x dx h' F' N' l1 l2 => ?_
  have Ns : News h₀ L h' ((x, instObj C dx) :: (dx, dictOf [] 0) :: sub) := fun p hp => by
    rcases List.mem_cons.mp hp with rfl | hp
    · exact N' _ (List.Mem.head _)
    · rcases List.mem_cons.mp hp with rfl | hp
      · exact N' _ (List.Mem.tail _ (List.Mem.head _))
      · exact N' p (List.Mem.tail _ (List.Mem.tail _ (hs p hp)))
  obtain ⟨FG, BG, st, _⟩ := groundX (s := { s with heap := h' }) (A := A.under (.builtin "type.__call__" ⟨.ref C :: pos, []⟩)) (R := fun _ _ => True) B F' Ns hA hf hke
  refine codeAny_call_def (s := { s with heap := h' }) (fd := fnOf name qual params body scope dV kV doc pm an cdv ct) (body := body) (binds := binds x) hroom ((X₀.keeps F'.keep) _ _ ho) rfl (T.nolimit.keeps F'.keep) (codeRec_of (X₀.keeps F'.keep) hcd) rfl (hbind x h' (X₀.keeps F'.keep)) hcell (hloc x) (fun h₁ hns hk₁ => ?_) hco hgen hk
  refine wpAny_mono (h x dx (hideAll h' (((x, instObj C dx) :: (dx, dictOf [] 0) :: sub).map (·.1))) h'.objs.size h₁ s.gens s.drawn _ s.os l2 ⟨hns, fun b o e => hk₁ b o (of_hideAll _ e), Nat.le_of_eq (hideAll_size _ _)⟩
    (fun p hp => ⟨hk₁ _ _ (Ns p hp).1, Nat.ne_of_lt (Heap.lt_size (Ns p hp).1), hideAll_none _ (List.mem_map_of_mem hp)⟩) BG (X₀.keeps fun b o e => st b o e) (T.keeps fun b o e => st b o e) (fun p hp => l1 p (hs p hp)) (Heap.lt_size (Ns _ (List.Mem.head _)).1)) (fun fl s' hl => ?_) fun _ _ y => y.elim
  obtain ⟨hv, L', m', news', new, e1, F2, N2, hsub, hnew, hd, hp⟩ := hl
  refine ⟨hv, ?_⟩
  have e2 : s' = { s with heap := s'.heap, toks := s'.toks } := e1
  have nm : ∀ b o, h₀.get? b = some o → b ∉ ((x, instObj C dx) :: (dx, dictOf [] 0) :: sub).map (·.1) := fun b o e q => by
    obtain ⟨p, hp, rfl⟩ := List.mem_map.mp q
    rw [(Ns p hp).2.2] at e; cases e
  obtain ⟨oL, es, ep, hL, hLd, hLk, hLf⟩ := F'.ns
  have nL : L ∉ ((x, instObj C dx) :: (dx, dictOf [] 0) :: sub).map (·.1) := fun q => by
    obtain ⟨p, hp, e⟩ := List.mem_map.mp q
    exact (Ns p hp).2.1 e
  have hLg := hideAll_get (((x, instObj C dx) :: (dx, dictOf [] 0) :: sub).map (·.1)) hL nL
  have gnone : ∀ p ∈ new, (hideAll h' (((x, instObj C dx) :: (dx, dictOf [] 0) :: sub).map (·.1))).get? p.1 = none := fun p hp => (N2 p (hnew p hp)).2.2
  have hin : ∀ q ∈ news, q ∈ sub ∨ (hideAll h' (((x, instObj C dx) :: (dx, dictOf [] 0) :: sub).map (·.1))).get? q.1 = some q.2 := fun q hq => by
    have Nq := N' q (List.Mem.tail _ (List.Mem.tail _ hq))
    by_cases hm : q.1 ∈ sub.map (·.1)
    · obtain ⟨p, hp, e⟩ := List.mem_map.mp hm
      have a := Nq.1
      have b := (N' p (List.Mem.tail _ (List.Mem.tail _ (hs p hp)))).1
      rw [e, a] at b
      obtain ⟨q1, q2⟩ := q
      obtain ⟨p1, p2⟩ := p
      cases e; cases b; exact .inl hp
    · refine .inr (hideAll_get _ Nq.1 fun hm' => ?_)
      have hlt : q.1 < dx := l1 q hq
      rcases List.mem_cons.mp hm' with e | hm'
      · exact absurd (Nat.lt_trans hlt l2) (e ▸ Nat.lt_irrefl _)
      · rcases List.mem_cons.mp hm' with e | hm'
        · exact absurd hlt (e ▸ Nat.lt_irrefl _)
        · exact hm hm'
  rw [e2]
  refine ret x new s'.heap s'.toks ⟨⟨oL, es, ep, F2.keep L oL hLg, hLd, hLk, hLf⟩, fun b o e => F2.keep b o (st b o e), F.above⟩ (fun p hp => ?_) (fun q hq p hp => ?_) hp
  · rcases List.mem_append.mp hp with hp | hp
    · refine ⟨(N2 p (hnew p hp)).1, fun q => ?_, ?_⟩
      · have := gnone p hp; rw [q, hLg] at this; cases this
      · cases q : h₀.get? p.1 with
        | none => rfl
        | some o => have := gnone p hp; rw [st _ _ q] at this; cases this
    · refine ⟨?_, (N p hp).2⟩
      rcases hin p hp with h | h
      · exact (N2 p (hsub p h)).1
      · exact F2.keep _ _ h
  · rcases hin q hq with h | h
    · exact hd q h p hp
    · intro e
      have := gnone p hp
      rw [e, h] at this; cases this
end
end
section
/-- what a class must be for its instances' fields to be plainly set -/
structure PlainCls (K : Frag) (C : Addr) : Prop where
  hs : findIn K (.ref C) "__setattr__" = some (some (.builtin "object.__setattr__"))
  hp : plainOver K C = true
  hh : hasDictIn K C = true
/-- a plain value: a local name or a constant -/
def initVal (env : Env) (m : Str → Option Value) (tk : Nat) : PySem.Expr → Option (Value × Nat)
  | .Name y _ => match env.kindOf y, (y == ("__debug__" : Str)), m y with
    | some .local, false, some v => some (v, tk)
    | _, _, _ => none
  | .Constant (.int i) _ _ => some (.int i tk, tk + 1)
  | .Constant (.str x) _ _ => some (.str x tk, tk + 1)
  | .Constant (.bool b) _ _ => some (.bool b, tk)
  | _ => none
theorem putL_length_le {n : Str} {hsh : Int} {k v : Value} : ∀ es : List DictEntry, (putL n hsh k v es).length ≤ es.length + 1
  | [] => Nat.le_refl _
  | e :: r => by
    unfold putL
    split
    · exact Nat.le_succ _
    · exact Nat.succ_le_succ (putL_length_le r)
theorem putL_new {n : Str} {hsh : Int} {k v : Value} : ∀ es : List DictEntry, es.find? (·.key.isStr n) = none → putL n hsh k v es = es ++ [⟨hsh, k, v⟩]
  | [], _ => rfl
  | e :: r, h => by
    rw [List.find?_cons] at h
    unfold putL
    cases h' : e.key.isStr n with
    | true => rw [h'] at h; cases h
    | false =>
      rw [h'] at h
      simp only [Bool.false_eq_true, if_false, putL_new r h, List.cons_append]
theorem getL_none {n : Str} {es : List DictEntry} (h : getL n es = some none) : es.find? (·.key.isStr n) = none := by
  unfold getL at h
  split at h
  · cases h
  · assumption
section
variable {w : World} {A : Around} {g h : Heap} {L x dx C : Addr} {m : Str → Option Value} {K : Frag} {prog : Program} {cn : Str} {cs : Scope} {a : Addr} {ccd : Value} {cl : List (Str × Addr)}
  {gs : Array GenState} {dr : Drawn} {tk tk2 : Nat} {os : OsState} {v : Value} {es : List DictEntry} {n : Nat} {sub : List (Addr × Obj)}
theorem initVal_eval {e : PySem.Expr} {Q E : Value → Shared → Prop} (F : Fr g L h m) (hk : cs.kind = .function) (hv : initVal (envX cn cs L a ccd cl) m tk e = some (v, tk2)) (k : Q v ⟨h, gs, dr, tk2, os⟩) :
    wpAny (model prog w) A (eval e (envX cn cs L a ccd cl)) Q E ⟨h, gs, dr, tk, os⟩ := by
  unfold initVal at hv
  split at hv
  · split at hv
    · rename_i h1 h2 h3
      cases hv
      exact nameX_L F h3 k hk h1 h2
    · cases hv
  · cases hv; exact wpAny_Constant_int k
  · cases hv; exact PySem.Calls.Constant_str k
  · cases hv; exact PyProof.Rows.Constant_bool k
  · cases hv
theorem init_step {val : PySem.Expr} {sf attr : Str} {p1 p2 pos : Pos} {rest : List Stmt} {Q : Flow → Shared → Prop} {E : Value → Shared → Prop} (hC : PlainCls K C) (X : K.In g) (F : Fr g L h m) (N : News g L h ((x, instObj C dx) :: (dx, dictOf es n) :: sub))
    (hlt : @LT.lt Nat _ dx x) (hsub : ∀ p ∈ sub, p.1 ≠ dx) (hk : cs.kind = .function)
    (hv : initVal (envX cn cs L a ccd cl) m tk val = some (v, tk2)) (hsf : initVal (envX cn cs L a ccd cl) m tk2 (.Name sf p1) = some (.ref x, tk2))
    (ht : takerIn K C attr = some none) (hl : getL attr es = some none) (hz : es.length ≤ 900)
    (hsw : swapsWith val (some (.Attribute (.Name sf p1) attr p2)) pos.line (envX cn cs L a ccd cl) = pure false)
    (next : ∀ h' t tk' n', Fr g L h' m → News g L h' ((x, instObj C dx) :: (dx, dictOf (es ++ [⟨PyData.keyHash w.params attr, .str attr t, v⟩]) n') :: sub) →
      wpAny (model prog w) A (execs rest (envX cn cs L a ccd cl)) Q E ⟨h', gs, dr, tk', os⟩) :
    wpAny (model prog w) A (execs (.Assign [.Attribute (.Name sf p1) attr p2] val pos :: rest) (envX cn cs L a ccd cl)) Q E ⟨h, gs, dr, tk, os⟩ := by
  refine wpAny_execs_cons (plainObj_wpAny_Assign_Attribute (initVal_eval F hk hv (initVal_eval F hk hsf ?_)) hsw)
  refine PySem.W.set_dict F X N (InstAt.of_news N (List.Mem.head _) (List.Mem.tail _ (List.Mem.head _))) rfl hC.hs hC.hp ht hC.hh (by rw [hl]; rfl) rfl (Upd.tail (fun e => absurd hlt (e ▸ Nat.lt_irrefl _)) (Upd.head hsub)) ?_ fun h' F' N' => next h' _ _ _ F' (putL_new es (getL_none hl) ▸ N')
  exact Nat.le_trans (putL_length_le _) (Nat.le_trans (Nat.succ_le_succ hz) (by decide))
end
end
theorem wd32 : True := by
  k_with "mine execs cons" => ((k_here; (with_reducible show wpAny _ _ (execs (PySem.Stmt.Assign [PySem.Expr.Attribute _ _ _] _ _ :: _) _) _ _ _); k_dflt (refine' init_step ?hCq409 ?Xq409 ?Fq409 ?Nq409 ?lq409 ?sq409 rfl ?vq409 ?sfq409 ?tq409 ?hlq409 ?hzq409 ?swq409 ?_; (case hCq409 => assumption); (case Xq409 => assumption); (case Fq409 => k_asm); (case Nq409 => k_asm); (case lq409 => assumption); (case sq409 => assumption); (case vq409 => exact rfl); (case sfq409 => exact rfl); (case tq409 => k_is); (case hlq409 => exact rfl); (case hzq409 => exact Nat.le_of_ble_eq_true rfl); (case swq409 => exact rfl); intro h' t' tk' n' F' N'; (try dsimp only [List.cons_append, List.nil_append] at N'); (try k_sweep))))
  trivial
section
theorem shape_new0 (w : World) (cat us : Str) (size : Nat) (t1 t2 t3 : Tok) :
    Spec w (hd.heap_1 w.params) 111 [.str cat t1, .int size t2, .none, .str us t3] [] 2 (fun v new => ∃ x dx es n, v = .ref x ∧ new = [(x, instObj 111 dx), (dx, dictOf es n)] ∧ ShapeIs es cat us size 0 false false (Str.ofString "trailing") ∧ getL "sign_place" es = some none ∧ es.length ≤ 11 ∧ (getL "scale" es).isSome = true ∧ @LT.lt Nat _ dx x) := by
  unfold Spec
  intro dp un gd cn cs a ccd cl outer A₀ base h₀ L m mg mb mean news s Q E B F X N T hk hs hroom hun ret
  refine enterI (fI := 94) (P := fun x new => ∃ dx es n, new = [(x, instObj 111 dx), (dx, dictOf es n)] ∧ ShapeIs es cat us size 0 false false (Str.ofString "trailing") ∧ getL "sign_place" es = some none ∧ es.length ≤ 11 ∧ (getL "scale" es).isSome = true ∧ @LT.lt Nat _ dx x) B F X N T rfl rfl hk hs (by k_is) (by k_is) (by k_is) (by k_is) (by k_is) (by simp only [depth_under_make]; show dp + 1 < recursionLimit; (first | lia | omega)) (fun x h' X' => binds_K X' rfl (by k_is) rfl rfl rfl) (fun x => locs rfl) (fun x new h' tk' F N D P => ret _ new h' tk' F N D ?_) ?_ rfl rfl rfl (by decide)
  · obtain ⟨dx, es, n, e1, e2, e3, e4⟩ := P
    exact ⟨x, dx, es, n, rfl, e1, e2, e3, e4⟩
  clear B F X N T ret hs
  intro x dx g L' h₁ gs5 dr5 tk os5 ldx F' N' B' X' T' l1 l2
  have hC : PlainCls (hd.heap_1 w.params) 111 := ⟨by k_is, by k_is, by k_is⟩
  have hsub : ∀ p ∈ @List.nil (Addr × Obj), @Ne Nat p.1 dx := fun _ h => nomatch h
  (try dsimp only)
  show wpAny _ _ _ _ _ _
  k_fold
  k_extra "my steps"
  refine EndsI.intro [_, _] (by k_asm) (by k_asm) (fun _ h => nomatch h) (by kcj_all) (fun _ h => nomatch h) ⟨_, _, _, rfl, ⟨⟨_, rfl⟩, ⟨_, rfl⟩, ⟨_, rfl⟩, ⟨_, rfl⟩, rfl, ⟨_, rfl⟩, rfl⟩, rfl, Nat.le_of_ble_eq_true rfl, rfl, ldx⟩
end
section
theorem isStr_eq {k : Value} {a b : Str} (h1 : k.isStr a = true) (h2 : k.isStr b = true) : a = b := by
  cases k <;> simp [Value.isStr] at h1 h2
  rw [← h1, ← h2]
theorem isStr_self {a : Str} {t : Tok} : (Value.str a t).isStr a = true := by simp [Value.isStr]
theorem isStr_ne {a b : Str} {t : Tok} (h : b ≠ a) : (Value.str a t).isStr b = false := by
  cases e : (Value.str a t).isStr b with
  | false => rfl
  | true => exact absurd (isStr_eq e isStr_self) h
theorem find_putL_ne {n n' : Str} {hsh : Int} {t : Tok} {v : Value} (h : n ≠ n') : ∀ es : List DictEntry, (putL n' hsh (.str n' t) v es).find? (·.key.isStr n) = (es.find? (·.key.isStr n))
  | [] => by simp [putL, isStr_ne h]
  | e :: r => by
    unfold putL
    cases h' : e.key.isStr n' with
    | true =>
      have : e.key.isStr n = false := by
        cases q : e.key.isStr n with
        | false => rfl
        | true => exact absurd (isStr_eq q h') h
      simp [this]
    | false =>
      simp only [Bool.false_eq_true, if_false, List.find?_cons, find_putL_ne h r]
theorem find_putL_eq {n : Str} {hsh : Int} {t : Tok} {v : Value} : ∀ es : List DictEntry, ∃ e, (putL n hsh (.str n t) v es).find? (·.key.isStr n) = some e ∧ e.val = v
  | [] => ⟨_, by simp [putL, isStr_self]; rfl, rfl⟩
  | e :: r => by
    unfold putL
    cases h' : e.key.isStr n with
    | true => exact ⟨⟨e.hash, e.key, v⟩, by simp [h'], rfl⟩
    | false =>
      obtain ⟨e2, h1, h2⟩ := find_putL_eq (n := n) (hsh := hsh) (t := t) (v := v) r
      exact ⟨e2, by simp [h', h1], h2⟩
theorem any_putL {n : Str} {hsh : Int} {t : Tok} {v : Value} : ∀ es : List DictEntry, (putL n hsh (.str n t) v es).any (·.refKey) = es.any (·.refKey)
  | [] => rfl
  | e :: r => by
    unfold putL
    split
    · rfl
    · simp only [List.any_cons, any_putL r]
theorem getL_putL_eq {n : Str} {hsh : Int} {t : Tok} {v : Value} {es : List DictEntry} : getL n (putL n hsh (.str n t) v es) = some (some v) := by
  obtain ⟨e, h1, h2⟩ := find_putL_eq (n := n) (hsh := hsh) (t := t) (v := v) es
  unfold getL
  rw [h1]; simp [h2]
theorem getL_putL_ne {n n' : Str} {hsh : Int} {t : Tok} {v : Value} {es : List DictEntry} (h : n ≠ n') : getL n (putL n' hsh (.str n' t) v es) = getL n es := by
  unfold getL
  rw [find_putL_ne h, any_putL]
theorem isSome_of {α : Type} {a : Option (Option α)} {v : α} (h : a = some (some v)) : a.isSome = true := by rw [h]; rfl
end
theorem wd33 : True := by
  k_with "mine call ref" => ((k_here; (with_reducible show wpAny _ _ (call (Value.ref 111) _) _ _ _); k_dflt (refine' Spec.use8 (shape_new0 _ _ _ _ _ _ _) ?k1 ?k2 ?k3 ?k4 ?k5 ?kK ?ks ?kd ?ku ?_; k_extra "my sides"; intro x' dx' es' n' h' tk' F' N' hne' hS' hP' hX'; (obtain ⟨hL', hX', hY'⟩ := hX'); (have hZ' := hS'); (obtain ⟨_, _, _, _, _, ⟨_, hd'⟩, hg'⟩ := hZ'); (replace hd' := isSome_of hd'); (replace hg' := isSome_of hg'); (try dsimp only [OffN, OffP] at hne'); (try k_sweep); (try dsimp only))))
  trivial
section
theorem putL_len {n : Str} {hsh : Int} {k v : Value} {c : Nat} : ∀ {es : List DictEntry}, es.length ≤ c → (putL n hsh k v es).length ≤ c + 1
  | [], _ => by simp [putL]
  | e :: r, h => by
    unfold putL
    simp only [List.length_cons] at h
    split
    · simp only [List.length_cons]; (first | lia | omega)
    · obtain ⟨d, rfl⟩ : ∃ d, c = d + 1 := ⟨c - 1, by (first | lia | omega)⟩
      have := putL_len (n := n) (hsh := hsh) (k := k) (v := v) (c := d) (es := r) (by (first | lia | omega))
      simp only [List.length_cons]; (first | lia | omega)
theorem wd34 : True := by
  k_with "my some" => (first | assumption | (rw [getL_putL_ne (by decide)]; k_extra "my some"))
  k_with "my room" => (first | exact Nat.le_trans (putL_len (by assumption)) (by decide) | exact Nat.le_trans (putL_len (putL_len (by assumption))) (by decide) | exact Nat.le_trans (putL_len (putL_len (putL_len (by assumption)))) (by decide))
  k_with "mine setAttr ref" => ((k_here; k_dflt (refine' set_dict ?k1 ?k2 ?k3 ?k4 ?k5 ?k6q413 ?k7q413 ?k8q413 ?k9q413 ?k10q413 ?k11q413 ?k12q413 ?k13q413 ?_; (case k1 => k_asm); (case k2 => k_asm); (case k3 => k_asm); (case k4 => k_inst); (case k5 => exact rfl); (case k6q413 => k_is); (case k7q413 => k_is); (case k8q413 => k_is); (case k9q413 => k_is); (case k10q413 => k_extra "my some"); (case k11q413 => exact rfl); (case k12q413 => k_upd); (case k13q413 => k_extra "my room"); k_whole; intro h' F' N'; (try k_sweep))))
  k_with "my some2" => (first | assumption | (rw [getL_putL_eq]; rfl) | (rw [getL_putL_ne (by decide)]; k_extra "my some2"))
  k_with "my get" => (first | assumption | exact getL_putL_eq | (rw [getL_putL_ne (by decide)]; k_extra "my get"))
  trivial
theorem numbered_shape_spec (w : World) (cat us : Str) (size d sc : Nat) (sg : Bool) (t1 t2 t3 t4 t5 : Tok) :
    Spec w (hd.heap_1 w.params) 177 [.str cat t1, .int size t2, .str us t3, .int d t4, .int sc t5, .bool sg] [] 4 (fun v new => ∃ x dx es n, v = .ref x ∧ new = [(x, instObj 111 dx), (dx, dictOf es n)] ∧ ShapeIs es cat us size d sg false (Str.ofString "trailing") ∧ getL "sign_place" es = some none ∧ es.length ≤ 14 ∧ (getL "scale" es).isSome = true ∧ @LT.lt Nat _ dx x) := by
  unfold Spec
  intro dp un gd cn cs a ccd cl outer A₀ base h₀ L m mg mb mean news s Q E B F X N T hk hs hroom hun ret
  refine enterC (binds := [(Str.ofString "category", .str cat t1), (Str.ofString "size", .int size t2), (Str.ofString "usage", .str us t3), (Str.ofString "digits", .int d t4), (Str.ofString "scale", .int sc t5), (Str.ofString "is_signed", .bool sg)]) B F X N T rfl rfl hk hs (by k_is) (by k_is) (show dp < recursionLimit from Nat.lt_of_le_of_lt (Nat.le_add_right _ _) hroom) (BindsTo.of_eq rfl) (locs rfl) ret ?_ rfl rfl rfl (by decide)
  clear B F X N T ret hs
  intro g L' h₁ gs5 dr5 tk os5 F' N' B' X' T' l1
  (try dsimp only)
  show wpAny _ _ _ _ _ _
  k_fold
  k_extra "my steps"
  rename ShapeIs _ _ _ _ _ _ _ _ => hS
  rename (@LT.lt Nat _ _ _) => hlt
  obtain ⟨⟨c1, hc1⟩, ⟨c2, hc2⟩, ⟨c3, hc3⟩, ⟨c4, hc4⟩, hc5, ⟨c6, hc6⟩, hc7⟩ := hS
  refine Ends.intro [_, _] (by k_asm) (by k_asm) (fun _ h => nomatch h) (by kcj_all) (fun _ h => nomatch h) ⟨_, _, _, _, rfl, rfl, ⟨⟨c1, by k_extra "my get"⟩, ⟨c2, by k_extra "my get"⟩, ⟨c3, by k_extra "my get"⟩, ⟨c4, by k_extra "my get"⟩, by k_extra "my get", ⟨t4, by k_extra "my get"⟩, by k_extra "my get"⟩, by k_extra "my get", putL_len (putL_len (putL_len (by assumption))), by k_extra "my some2", hlt⟩
theorem numbered_shape_idx (w : World) (t1 t2 t3 t4 t5 : Tok) :
    Spec w (hd.heap_1 w.params) 177 [.str (Str.ofString "index") t1, .int 4 t2, .str (Str.ofString "index") t3, .int 9 t4, .int 0 t5, .bool true] [] 4 (fun v new => ∃ x dx es n, v = .ref x ∧ new = [(x, instObj 111 dx), (dx, dictOf es n)] ∧ ShapeIs es (Str.ofString "index") (Str.ofString "index") 4 9 true false (Str.ofString "trailing") ∧ getL "sign_place" es = some none ∧ es.length ≤ 14 ∧ (getL "scale" es).isSome = true ∧ @LT.lt Nat _ dx x) :=
  numbered_shape_spec w (Str.ofString "index") (Str.ofString "index") 4 9 0 true t1 t2 t3 t4 t5
end
theorem wd35 : True := by
  k_with_none
  k_with "my fold" => (((first | (with_reducible show wpAny _ _ (exec (PySem.Stmt.Assign _ _ _) _) _ _ _) | (with_reducible show wpAny _ _ (exec (PySem.Stmt.Return _ _) _) _ _ _) | (with_reducible show wpAny _ _ (exec (PySem.Stmt.If _ _ _ _) _) _ _ _) | (with_reducible show wpAny _ _ (exec (PySem.Stmt.Expr _ _) _) _ _ _) | (with_reducible show wpAny _ _ (exec (PySem.Stmt.AugAssign _ _ _ _) _) _ _ _) | (with_reducible show wpAny _ _ (eval (PySem.Expr.BinOp _ _ _ _) _) _ _ _) | (with_reducible show wpAny _ _ (eval (PySem.Expr.Call _ _ _ _) _) _ _ _)); (fail_if_success (fail_if_success k_fold)); refine (let qk := _; keepQ qk ?_)))
  k_with "my get" => (assumption)
  k_with "mine call type:range" => ((k_here; (rename Fr _ _ _ _ => F'); (rename News _ _ _ _ => N'); (with_unfolding_all refine range1_rows F' N' ?_; intro _ _ _ _ _ _ _ _ _)))
  k_with "my steps" => (repeat' (first | ((fail_if_success (fail_if_success k_unfold)); (try dsimp only); refine (?_ : wpAny _ _ _ _ _ _)) | (k_unfold; (try dsimp only)) | k_extra "my fold" | ((fail_if_success (with_reducible show wpAny _ _ (pyIter _) (fun it s₂ => LoopAtV _ _ _ _ _ _ _ _ _ it s₂) _ _)); (fail_if_success (with_reducible show wpAny _ _ (pyIter _) (fun it s₂ => PairAt3 _ _ _ _ _ _ _ _ _ _ it s₂) _ _)); (fail_if_success (with_reducible show LoopStep3 _ _ _ _ _ _ _ _ _ _)); (fail_if_success (with_reducible show InvEndN _ _ _ _ _ _ _)); (fail_if_success (with_reducible show Ends _ _ _ _ _ _)); first | walk1 | (dsimp only; walk1) | (dsimp only; k_unfold; (try dsimp only)))))
  k_with "my plain steps" => (repeat' (first | ((fail_if_success (fail_if_success k_unfold)); (try dsimp only); refine (?_ : wpAny _ _ _ _ _ _)) | (k_unfold; (try dsimp only)) | ((fail_if_success (with_reducible show wpAny _ _ (pyIter _) (fun it s₂ => LoopAtV _ _ _ _ _ _ _ _ _ it s₂) _ _)); (fail_if_success (with_reducible show wpAny _ _ (pyIter _) (fun it s₂ => PairAt3 _ _ _ _ _ _ _ _ _ _ it s₂) _ _)); (fail_if_success (with_reducible show LoopStep3 _ _ _ _ _ _ _ _ _ _)); (fail_if_success (with_reducible show InvEndN _ _ _ _ _ _ _)); (fail_if_success (with_reducible show Ends _ _ _ _ _ _)); first | walk1 | (dsimp only; walk1) | (dsimp only; k_unfold; (try dsimp only)))))
  k_with "my bytes" => (first | exact all48 (by assumption) | (refine all_cons (by decide) ?_; k_extra "my bytes") | (refine all_snoc (by decide) ?_; k_extra "my bytes"))
  k_with "my size" => (first | (first | lia | omega) | ((try simp only [List.length_map, List.length_cons, List.length_append, List.length_nil, List.length_set, List.length_reverse, lits_length, figs_length, stepKs_length]); (first | lia | omega)))
  k_with "mine call type:bytes" => ((k_here; (with_reducible show wpAny _ _ (call (Value.type "bytes") [Value.ref _]) _ _ _); k_dflt (refine' bytesOf_K ?Fq423 ?Nq423 ?mq423 ?iq423 ?rq423 ?zq423 ?hq423 ?_; (case Fq423 => k_asm); (case Nq423 => k_asm); (case mq423 => k_mem); (case iq423 => assumption); (case rq423 => k_extra "my bytes"); (case zq423 => k_extra "my size"); (case hq423 => exact rfl); k_whole); intro h' t' k' F' N'; (try k_sweep)))
  k_with "my bytes" => ((refine all_set (u8_in _) ?_; k_extra "my bytes"))
  k_with "my byte at" => ((refine fig_at (by assumption) ?_; k_extra "my size"))
  k_with "mine subscriptTail" => ((k_here; (with_reducible show wpAny _ _ (subscriptTail _ _ (Value.bytes _ _) (Value.int _ _)) _ _ _); k_dflt (refine' bytesItem_K ?aq426 ?bq426 ?_ ?hsq426 ?htq426; (case aq426 => k_extra "my byte at"); (case bq426 => decide); (case hsq426 => with_unfolding_all rfl); (case htq426 => intro _; with_unfolding_all rfl))))
  k_with "my index" => (first | (first | lia | omega) | decide | assumption)
  k_with "mine compareOp In" => ((k_here; (with_reducible show wpAny _ _ (compareOp CmpOp.In (Value.int _ _) (Value.bytes _ _)) _ _ _); k_dflt (refine' in_bytes ?aq428 ?bq428 ?_; (case aq428 => (first | lia | omega)); (case bq428 => (first | lia | omega)))))
  k_with "mine getMethod" => ((k_here; (with_reducible show wpAny _ _ (getMethod (Value.bytes _ _) "index" _) _ _ _); refine index_method ?_))
  k_with "mine call builtin:bytes.index" => ((k_here; (with_reducible show wpAny _ _ (call (Value.builtin "bytes.index") [Value.bytes _ _, Value.int _ _]) _ _ _); k_dflt (refine' bytes_index _ ?aq430 ?bq430 ?cq430 ?dq430 ?_; (case aq430 => (first | lia | omega)); (case bq430 => (first | lia | omega)); (case cq430 => decide); (case dq430 => assumption)); intro _ _; (try dsimp only)))
  k_with "mine subscriptTail" => ((k_here; (with_reducible show wpAny _ _ (subscriptTail _ _ (Value.bytes (byteArr _) _) (Value.int _ _)) _ _ _); k_dflt (refine' bytesInt_K ?aq431 ?bq431 ?rq431 ?zq431 ?_ ?hsq431 ?htq431; (case aq431 => (first | lia | omega)); (case bq431 => assumption); (case rq431 => first | assumption | k_extra "my bytes"); (case zq431 => k_extra "my size"); (case hsq431 => with_unfolding_all rfl); (case htq431 => intro _; with_unfolding_all rfl)); intro _ _; (try dsimp only)))
  k_with "my pick" => ((with_reducible first | exact kmk_upto (by l_ints) (by (first | lia | omega)) | exact kmk_from (by l_ints) (by (first | lia | omega)) | exact kmk_upto_neg (by l_ints) (by (first | lia | omega)) | exact kmk_from_neg (by l_ints) (by (first | lia | omega))))
  k_with "mine subscriptTail Name Slice ref ref" => ((k_here; (with_reducible show wpAny _ _ (subscriptTail _ (PySem.Expr.Slice _ _ none _) (Value.ref _) (Value.ref _)) _ _ _); k_dflt (refine' kmk_slice_ints ?Fq433 ?Nq433 ?lq433 ?pq433 ?qq433 ?iq433 ?mq433 ?cq433 ?_ ?sq433 ?tq433 ?zq433; (case Fq433 => k_asm); (case Nq433 => k_asm); (case lq433 => kmk_list); (case pq433 => kmk_part); (case qq433 => kmk_part); (case iq433 => l_ints); (case mq433 => k_extra "my pick"); (case cq433 => kmk_len); (case sq433 => with_unfolding_all rfl); (case tq433 => kmk_pure); (case zq433 => kmk_size)); intro D' ws' h' F' N' l1 hI' hC' hL'; (try k_lt l1); (try k_sweep)))
  k_with "my ints" => (first | l_ints | exact IntsAre.cons _ _ IntsAre.nil | exact IntsAre.cons _ _ (IntsAre.cons _ _ IntsAre.nil))
  k_with "mine binaryOp Add ref ref" => ((k_here; (with_reducible show wpAny _ _ (binaryOp _ (Value.ref _) (Value.ref _)) _ _ _); k_dflt (refine' kmk_add_ints ?Fq435 ?Nq435 ?aq435 ?bq435 ?iq435 ?jq435 ?_ ?zq435; (case Fq435 => k_asm); (case Nq435 => k_asm); (case aq435 => kmk_list); (case bq435 => kmk_list); (case iq435 => k_extra "my ints"); (case jq435 => k_extra "my ints"); (case zq435 => first | ((simp only [sizeLine_eq]); k_extra "my size") | kmk_sum)); intro D' ws' h' F' N' l1 hI'; (try k_lt l1); (try k_sweep)))
  k_with "mine call builtin:len" => ((k_here; (with_reducible show wpAny _ _ (call (Value.builtin "len") [Value.bytes (byteArr _) _]) _ _ _); k_dflt (refine' len_byteArr ?zq436 ?_; (case zq436 => k_extra "my size")); intro _ _; (try dsimp only)))
  k_with "mine call builtin:ord" => ((k_here; (with_reducible show wpAny _ _ (call (Value.builtin "ord") [Value.str _ _]) _ _ _); refine ord_of_char ?_; (try dsimp only)))
  k_with "my text slice" => (((with_reducible rename Fr _ _ _ _ => F'); (with_reducible rename News _ _ _ _ => N'); first | ((with_reducible show wpAny _ _ (subscriptTail _ (Expr.Slice none (some _) none _) _ _) _ _ _); (refine slice_strN_ns_len (hsz := ?hszq438) (s := ⟨_, _, _, _, _⟩) F' N' ?_); (case hszq438 => rw [sizeLine_eq]; (first | lia | omega))) | ((with_reducible show wpAny _ _ (subscriptTail _ (Expr.Slice (some _) none none _) _ _) _ _ _); (refine slice_strN_sn_len (hsz := ?hszq438) (s := ⟨_, _, _, _, _⟩) F' N' ?_); (case hszq438 => rw [sizeLine_eq]; (first | lia | omega)))))
  k_with "my units" => (((try simp only [units_in1, units_deeper, Around.mark_units]); (try dsimp only [ktrTop]); (first | lia | omega)))
  k_with "my tail" => ((first | assumption | (refine' And.right ?_; first | assumption | (refine' And.right ?_; first | assumption | (refine' And.right ?_; first | assumption | (refine' And.right ?_; first | assumption | (refine' And.right ?_; first | assumption | (refine' And.right ?_; first | assumption | (refine' And.right ?_; first | assumption | (refine' And.right ?_; first | assumption | (refine' And.right ?_; assumption)))))))))))
  k_with "my conj" => (first | k_extra "my tail" | (refine' And.left ?_; k_extra "my tail") | (refine' And.left ?_; refine' And.left ?_; k_extra "my tail") | (refine' And.right ?_; refine' And.left ?_; k_extra "my tail"))
  k_with "my ne" => ((refine neN ?_; (try dsimp only); first | (refine' Nat.ne_of_lt ?_; k_extra "my conj") | (refine' Nat.ne_of_gt ?_; k_extra "my conj") | k_extra "my conj" | (refine' Ne.symm ?_; k_extra "my conj") | (first | lia | omega)))
  k_with "my sides" => (((case k1 => k_asm); (case k2 => k_asm); (case k3 => k_asm); (case k4 => k_asm); (case k5 => k_asm); (case kK => first | assumption | exact rfl); (case ks => kcj_all); (case kd => first | ((try simp only [depth_mark, depth_under_make, depth_under_kw, depth_in1, depth_deeper]); (try dsimp only [ktrTop]); first | (refine' room3 ?hhq443 ?llq443; (case hhq443 => assumption); (case llq443 => exact Nat.le_of_ble_eq_true rfl)) | (first | lia | omega)) | (with_unfolding_all exact Nat.le_of_ble_eq_true rfl)); (case ku => first | ((try simp only [units_in1, units_deeper, Around.mark_units]); (try dsimp only [ktrTop]); first | (refine' room3 ?hhq443 ?llq443; (case hhq443 => assumption); (case llq443 => exact Nat.le_of_ble_eq_true rfl)) | (first | lia | omega)) | (with_unfolding_all exact Nat.le_of_ble_eq_true rfl))))
  k_with "mine call ref" => ((k_here; (with_reducible show wpAny _ _ (call (Value.ref 177) _) _ _ _); k_dflt (refine' Spec.use8 (numbered_shape_idx _ _ _ _ _ _) ?k1 ?k2 ?k3 ?k4 ?k5 ?kK ?ks ?kd ?ku ?_; k_extra "my sides"; intro x' dx' es' n' h' tk' F' N' hne' hS' hP' hX'; (obtain ⟨hL', hX', hY'⟩ := hX'); (have hZ' := hS'); (obtain ⟨_, _, _, _, _, ⟨_, hd'⟩, hg'⟩ := hZ'); (replace hd' := isSome_of hd'); (replace hg' := isSome_of hg'); (try dsimp only [OffN, OffP] at hne'); (try k_sweep); (try dsimp only))))
  trivial
section
theorem index_shape_spec (w : World) :
    Spec w (hd.heap_1 w.params) 184 [] [] 5 (fun v new => ∃ x dx es n, v = .ref x ∧ new = [(x, instObj 111 dx), (dx, dictOf es n)] ∧ ShapeIs es (Str.ofString "index") (Str.ofString "index") 4 9 true false (Str.ofString "trailing") ∧ getL "sign_place" es = some none ∧ es.length ≤ 14 ∧ @LT.lt Nat _ dx x) := by
  unfold Spec
  intro dp un gd cn cs a ccd cl outer A₀ base h₀ L m mg mb mean news s Q E B F X N T hk hs hroom hun ret
  refine enterC (binds := []) B F X N T rfl rfl hk hs (by k_is) (by k_is) (show dp < recursionLimit from Nat.lt_of_le_of_lt (Nat.le_add_right _ _) hroom) (BindsTo.of_eq rfl) (locs rfl) ret ?_ rfl rfl rfl (by decide)
  clear B F X N T ret hs
  intro g L' h₁ gs5 dr5 tk os5 F' N' B' X' T' l1
  (try dsimp only)
  show wpAny _ _ _ _ _ _
  k_fold
  k_extra "my steps"
  rename ShapeIs _ _ _ _ _ _ _ _ => hS
  rename (@LT.lt Nat _ _ _) => hlt
  exact Ends.intro [_, _] (by k_asm) (by k_asm) (fun _ h => nomatch h) (by kcj_all) (fun _ h => nomatch h) ⟨_, _, _, _, rfl, rfl, hS, by assumption, by assumption, hlt⟩
end
section
def binWidth (d : Nat) : Nat := if d ≤ 4 then 2 else if d ≤ 9 then 4 else 8
theorem binary_width_spec (w : World) (d : Nat) (t : Tok) (h0 : 1 ≤ d) (h1 : d ≤ 18) :
    Spec w (hd.heap_1 w.params) 129 [.int d t] [] 1 (fun v new => new = [] ∧ ∃ t, v = .int (binWidth d : Nat) t) := by
  unfold Spec
  intro dp un gd cn cs a ccd cl outer A₀ base h₀ L m mg mb mean news s Q E B F X N T hk hs hroom hun ret
  refine enterC (binds := [(Str.ofString "digits", .int d t)]) B F X N T rfl rfl hk hs (by k_is) (by k_is) (show dp < recursionLimit from Nat.lt_of_le_of_lt (Nat.le_add_right _ _) hroom) (BindsTo.of_eq rfl) (locs rfl) ret ?_ rfl rfl rfl (by decide)
  clear B F X N T ret hs
  intro g L' h₁ gs5 dr5 tk os5 F' N' B' X' T' l1
  (try dsimp only)
  show wpAny _ _ _ _ _ _
  k_fold
  k_extra "my steps"
  all_goals first | (exfalso; (first | lia | omega)) | exact Ends.plain (by k_asm) (by k_asm) (by kcj_all) ⟨rfl, _, intVal (by unfold binWidth; (repeat' split) <;> (first | lia | omega))⟩
theorem packed_width_spec (w : World) (d : Nat) (t : Tok) (h0 : 1 ≤ d) (h1 : d ≤ 18) :
    Spec w (hd.heap_1 w.params) 136 [.int d t] [] 1 (fun v new => new = [] ∧ ∃ t, v = .int (d / 2 + 1 : Nat) t) := by
  unfold Spec
  intro dp un gd cn cs a ccd cl outer A₀ base h₀ L m mg mb mean news s Q E B F X N T hk hs hroom hun ret
  refine enterC (binds := [(Str.ofString "digits", .int d t)]) B F X N T rfl rfl hk hs (by k_is) (by k_is) (show dp < recursionLimit from Nat.lt_of_le_of_lt (Nat.le_add_right _ _) hroom) (BindsTo.of_eq rfl) (locs rfl) ret ?_ rfl rfl rfl (by decide)
  clear B F X N T ret hs
  intro g L' h₁ gs5 dr5 tk os5 F' N' B' X' T' l1
  (try dsimp only)
  show wpAny _ _ _ _ _ _
  k_fold
  k_extra "my steps"
  all_goals first | (exfalso; (first | lia | omega)) | exact Ends.plain (by k_asm) (by k_asm) (by kcj_all) ⟨rfl, _, intVal (by rw [Int.fdiv_eq_ediv_of_nonneg _ (by decide)]; (first | lia | omega))⟩
end
theorem wd36 : True := by
  k_with "mine call ref" => ((k_here; (with_reducible show wpAny _ _ (call (Value.ref 129) _) _ _ _); k_dflt (refine' Spec.use0 (binary_width_spec _ _ _ ?c0q445 ?c1q445) ?k1 ?k2 ?k3 ?k4 ?k5 ?kK ?ks ?kd ?ku ?_; (case c0q445 => (first | lia | omega)); (case c1q445 => (first | lia | omega)); k_extra "my sides"; intro t' h' tk' F' N'; (try k_sweep); (try dsimp only))))
  k_with "mine call ref" => ((k_here; (with_reducible show wpAny _ _ (call (Value.ref 136) _) _ _ _); k_dflt (refine' Spec.use0 (packed_width_spec _ _ _ ?c0q446 ?c1q446) ?k1 ?k2 ?k3 ?k4 ?k5 ?kK ?ks ?kd ?ku ?_; (case c0q446 => (first | lia | omega)); (case c1q446 => (first | lia | omega)); k_extra "my sides"; intro t' h' tk' F' N'; (try k_sweep); (try dsimp only))))
  trivial
section
structure PicIs (ps : List DictEntry) (cat : Str) (d sc size : Nat) (sg : Bool) : Prop where
  cat : ∃ t, getL "category" ps = some (some (.str cat t))
  digits : ∃ t, getL "digits" ps = some (some (.int d t))
  scale : ∃ t, getL "scale" ps = some (some (.int sc t))
  size : ∃ t, getL "size" ps = some (some (.int size t))
  signed : getL "is_signed" ps = some (some (.bool sg))
def sizeFor (us : Str) (d size : Nat) (sep : Bool) : Nat := if us = Str.ofString "packed" then d / 2 + 1 else if us = Str.ofString "binary" then binWidth d else size + (if sep = true then 1 else 0)
theorem sizeFor_disp {d size : Nat} {sep : Bool} : sizeFor (Str.ofString "display") d size sep = size + (if sep = true then 1 else 0) := (if_neg (by decide)).trans (if_neg (by decide))
theorem size_for_spec (w : World) (px pdx : Addr) (ps : List DictEntry) (n : Nat) {cat us : Str} {d sc size : Nat} {sg sep : Bool} (hP : PicIs ps cat d sc size sg) (h0 : 1 ≤ d) (h1 : d ≤ 18) (t : Tok)
    (hus : us = Str.ofString "display" ∨ us = Str.ofString "packed" ∨ us = Str.ofString "binary") :
    Spec w (hd.heap_1 w.params) 143 [.ref px, .str us t, .bool sep] [(px, instObj 291 pdx), (pdx, dictOf ps n)] 2 (fun v new => new = [] ∧ ∃ t, v = .int (sizeFor us d size sep : Nat) t) := by
  obtain ⟨⟨c1, hc1⟩, ⟨c2, hc2⟩, ⟨c3, hc3⟩, ⟨c4, hc4⟩, hc5⟩ := hP
  unfold Spec
  intro dp un gd cn cs a ccd cl outer A₀ base h₀ L m mg mb mean news s Q E B F X N T hk hs hroom hun ret
  refine enterC (binds := [(Str.ofString "picture", .ref px), (Str.ofString "usage", .str us t), (Str.ofString "is_separate", .bool sep)]) B F X N T rfl rfl hk hs (by k_is) (by k_is) (show dp < recursionLimit from Nat.lt_of_le_of_lt (Nat.le_add_right _ _) hroom) (BindsTo.of_eq rfl) (locs rfl) ret ?_ rfl rfl rfl (by decide)
  clear B F X N T ret hs
  intro g L' h₁ gs5 dr5 tk os5 F' N' B' X' T' l1
  (try dsimp only)
  show wpAny _ _ _ _ _ _
  k_fold
  rcases hus with rfl | rfl | rfl
  all_goals k_extra "my steps"
  all_goals first | (exfalso; (first | lia | omega)) | exact Ends.plain (by k_asm) (by k_asm) (by kcj_all) ⟨rfl, _, rfl⟩ | (refine Ends.plain (by k_asm) (by k_asm) (by kcj_all) ⟨rfl, _, intVal ?_⟩; rw [sizeFor_disp]; simp [*]) | trace_state
end
section
theorem check_usage_spec (w : World) (px pdx : Addr) (ps : List DictEntry) (n : Nat) {us : Str} {d sc size : Nat} {sg : Bool} (hP : PicIs ps (Str.ofString "numeric") d sc size sg) (t : Tok)
    (hus : us = Str.ofString "display" ∨ us = Str.ofString "packed" ∨ us = Str.ofString "binary") :
    Spec w (hd.heap_1 w.params) 150 [.ref px, .str us t] [(px, instObj 291 pdx), (pdx, dictOf ps n)] 1 (fun v new => new = [] ∧ v = .none) := by
  obtain ⟨⟨c1, hc1⟩, ⟨c2, hc2⟩, ⟨c3, hc3⟩, ⟨c4, hc4⟩, hc5⟩ := hP
  unfold Spec
  intro dp un gd cn cs a ccd cl outer A₀ base h₀ L m mg mb mean news s Q E B F X N T hk hs hroom hun ret
  refine enterC (binds := [(Str.ofString "picture", .ref px), (Str.ofString "usage", .str us t)]) B F X N T rfl rfl hk hs (by k_is) (by k_is) (show dp < recursionLimit from Nat.lt_of_le_of_lt (Nat.le_add_right _ _) hroom) (BindsTo.of_eq rfl) (locs rfl) ret ?_ rfl rfl rfl (by decide)
  clear B F X N T ret hs
  intro g L' h₁ gs5 dr5 tk os5 F' N' B' X' T' l1
  (try dsimp only)
  show wpAny _ _ _ _ _ _
  k_fold
  rcases hus with rfl | rfl | rfl
  all_goals k_extra "my steps"
  all_goals first | (exfalso; (first | lia | omega)) | exact Ends.plain (by k_asm) (by k_asm) (by kcj_all) ⟨rfl, rfl⟩ | trace_state
theorem check_sign_spec (w : World) (px pdx : Addr) (ps : List DictEntry) (n : Nat) {us sn : Str} {d sc size : Nat} {sg sep : Bool} (hP : PicIs ps (Str.ofString "numeric") d sc size sg) (t t2 : Tok)
    (h : (sn = Str.ofString "trailing" ∧ sep = false) ∨ ((sn = Str.ofString "trailing" ∨ sn = Str.ofString "leading") ∧ sg = true ∧ us = Str.ofString "display")) :
    Spec w (hd.heap_1 w.params) 157 [.ref px, .str us t, .str sn t2, .bool sep] [(px, instObj 291 pdx), (pdx, dictOf ps n)] 1 (fun v new => new = [] ∧ v = .none) := by
  obtain ⟨⟨c1, hc1⟩, ⟨c2, hc2⟩, ⟨c3, hc3⟩, ⟨c4, hc4⟩, hc5⟩ := hP
  unfold Spec
  intro dp un gd cn cs a ccd cl outer A₀ base h₀ L m mg mb mean news s Q E B F X N T hk hs hroom hun ret
  refine enterC (binds := [(Str.ofString "picture", .ref px), (Str.ofString "usage", .str us t), (Str.ofString "sign", .str sn t2), (Str.ofString "is_separate", .bool sep)]) B F X N T rfl rfl hk hs (by k_is) (by k_is) (show dp < recursionLimit from Nat.lt_of_le_of_lt (Nat.le_add_right _ _) hroom) (BindsTo.of_eq rfl) (locs rfl) ret ?_ rfl rfl rfl (by decide)
  clear B F X N T ret hs
  intro g L' h₁ gs5 dr5 tk os5 F' N' B' X' T' l1
  (try dsimp only)
  show wpAny _ _ _ _ _ _
  k_fold
  rcases h with ⟨rfl, rfl⟩ | ⟨rfl | rfl, rfl, rfl⟩
  all_goals k_extra "my steps"
  all_goals first | (exfalso; (first | lia | omega)) | exact Ends.plain (by k_asm) (by k_asm) (by kcj_all) ⟨rfl, rfl⟩ | trace_state
end
theorem wd37 : True := by
  k_with "mine execs cons" => ((k_here; (with_reducible show wpAny _ _ (execs (PySem.Stmt.Assign [PySem.Expr.Attribute _ _ _] _ _ :: _) _) _ _ _); k_dflt (refine' init_step ?hCq447 ?Xq447 ?Fq447 ?Nq447 ?lq447 ?sq447 rfl ?vq447 ?sfq447 ?tq447 ?hlq447 ?hzq447 ?swq447 ?_; (case hCq447 => assumption); (case Xq447 => assumption); (case Fq447 => k_asm); (case Nq447 => k_asm); (case lq447 => assumption); (case sq447 => assumption); (case vq447 => exact rfl); (case sfq447 => exact rfl); (case tq447 => k_is); (case hlq447 => exact rfl); (case hzq447 => exact Nat.le_of_ble_eq_true rfl); (case swq447 => exact rfl); intro h' t' tk' n' F' N'; (try dsimp only [List.cons_append, List.nil_append] at N'); (try k_sweep))))
  k_with "mine setAttr ref" => ((k_here; k_dflt (refine' set_dict ?k1 ?k2 ?k3 ?k4 ?k5 ?k6q448 ?k7q448 ?k8q448 ?k9q448 ?k10q448 ?k11q448 ?k12q448 ?k13q448 ?_; (case k1 => k_asm); (case k2 => k_asm); (case k3 => k_asm); (case k4 => k_inst); (case k5 => exact rfl); (case k6q448 => k_is); (case k7q448 => k_is); (case k8q448 => k_is); (case k9q448 => k_is); (case k10q448 => exact rfl); (case k11q448 => exact rfl); (case k12q448 => k_upd); (case k13q448 => exact Nat.le_of_ble_eq_true rfl); k_whole; intro h' F' N'; (try k_sweep))))
  trivial
section
theorem check_clauses_spec (w : World) (px : Addr) :
    Spec w (hd.heap_1 w.params) 162 [.ref px, .bool false, .bool false] [] 1 (fun v new => new = [] ∧ v = .none) := by
  unfold Spec
  intro dp un gd cn cs a ccd cl outer A₀ base h₀ L m mg mb mean news s Q E B F X N T hk hs hroom hun ret
  refine enterC (binds := [(Str.ofString "picture", .ref px), (Str.ofString "is_justified", .bool false), (Str.ofString "is_blank_zero", .bool false)]) B F X N T rfl rfl hk hs (by k_is) (by k_is) (show dp < recursionLimit from Nat.lt_of_le_of_lt (Nat.le_add_right _ _) hroom) (BindsTo.of_eq rfl) (locs rfl) ret ?_ rfl rfl rfl (by decide)
  clear B F X N T ret hs
  intro g L' h₁ gs5 dr5 tk os5 F' N' B' X' T' l1
  (try dsimp only)
  show wpAny _ _ _ _ _ _
  k_fold
  k_extra "my steps"
  all_goals exact Ends.plain (by k_asm) (by k_asm) (by kcj_all) ⟨rfl, rfl⟩
theorem shape_new8 (w : World) (px pdx : Addr) (ps : List DictEntry) (pn : Nat) (us sn : Str) {d sc psize size : Nat} {sg : Bool} (sep : Bool) (hP : PicIs ps (Str.ofString "numeric") d sc psize sg) (t1 t2 t3 t4 : Tok) :
    Spec w (hd.heap_1 w.params) 111 [.str (Str.ofString "numeric") t1, .int size t2, .ref px, .str us t3, .str sn t4, .bool sep, .bool false, .bool false] [(px, instObj 291 pdx), (pdx, dictOf ps pn)] 3 (fun v new => ∃ x dx es n, v = .ref x ∧ new = [(x, instObj 111 dx), (dx, dictOf es n)] ∧ ShapeIs es (Str.ofString "numeric") us size d sg sep sn ∧ getL "sign_place" es = some none ∧ @LT.lt Nat _ dx x) := by
  obtain ⟨⟨c1, hc1⟩, ⟨c2, hc2⟩, ⟨c3, hc3⟩, ⟨c4, hc4⟩, hc5⟩ := hP
  unfold Spec
  intro dp un gd cn cs a ccd cl outer A₀ base h₀ L m mg mb mean news s Q E B F X N T hk hs hroom hun ret
  refine enterI (fI := 94) (P := fun x new => ∃ dx es n, new = [(x, instObj 111 dx), (dx, dictOf es n)] ∧ ShapeIs es (Str.ofString "numeric") us size d sg sep sn ∧ getL "sign_place" es = some none ∧ @LT.lt Nat _ dx x) B F X N T rfl rfl hk hs (by k_is) (by k_is) (by k_is) (by k_is) (by k_is) (by simp only [depth_under_make]; show dp + 1 < recursionLimit; (first | lia | omega)) (fun x h' X' => binds_K X' rfl (by k_is) rfl rfl rfl) (fun x => locs rfl) (fun x new h' tk' F N D P => ret _ new h' tk' F N D ?_) ?_ rfl rfl rfl (by decide)
  · obtain ⟨dx, es, n, e1, e2, e3, e4⟩ := P
    exact ⟨x, dx, es, n, rfl, e1, e2, e3, e4⟩
  clear B F X N T ret hs
  intro x dx g L' h₁ gs5 dr5 tk os5 ldx F' N' B' X' T' l1 l2
  have hC : PlainCls (hd.heap_1 w.params) 111 := ⟨by k_is, by k_is, by k_is⟩
  have hsub : ∀ p ∈ [(px, instObj 291 pdx), (pdx, dictOf ps pn)], @Ne Nat p.1 dx := fun p hp => Nat.ne_of_lt (l1 p hp)
  (try k_lt l1)
  (try dsimp only)
  show wpAny _ _ _ _ _ _
  k_fold
  k_extra "my steps"
  refine EndsI.intro [_, _] (by k_asm) (by k_asm) (by kcj_all) (by kcj_all) ?_ ⟨_, _, _, rfl, ⟨⟨_, rfl⟩, ⟨_, rfl⟩, ⟨_, rfl⟩, ⟨_, rfl⟩, rfl, ⟨_, rfl⟩, rfl⟩, rfl, ldx⟩
  intro q hq p hp
  simp only [List.mem_cons, List.not_mem_nil, or_false] at hq hp
  rcases hq with rfl | rfl <;> rcases hp with rfl | rfl <;> (refine neN ?_; (try dsimp only); (first | lia | omega))
end
theorem wd38 : True := by
  k_with "mine call ref" => ((k_here; (with_reducible show wpAny _ _ (call (Value.ref 143) _) _ _ _); k_dflt (refine' Spec.use0 (size_for_spec _ _ _ _ _ ?c0q449 ?c1q449 ?c2q449 _ ?c3q449) ?k1 ?k2 ?k3 ?k4 ?k5 ?kK ?ks ?kd ?ku ?_; (case c0q449 => assumption); (case c1q449 => (first | lia | omega)); (case c2q449 => (first | lia | omega)); (case c3q449 => assumption); k_extra "my sides"; intro t' h' tk' F' N'; (try k_sweep); (try dsimp only))))
  k_with "mine call ref" => ((k_here; (with_reducible show wpAny _ _ (call (Value.ref 150) _) _ _ _); k_dflt (refine' Spec.useN (check_usage_spec _ _ _ _ _ ?c0q450 _ ?c1q450) ?k1 ?k2 ?k3 ?k4 ?k5 ?kK ?ks ?kd ?ku ?_; (case c0q450 => assumption); (case c1q450 => assumption); k_extra "my sides"; intro h' tk' F' N'; (try k_sweep); (try dsimp only))))
  k_with "mine call ref" => ((k_here; (with_reducible show wpAny _ _ (call (Value.ref 157) _) _ _ _); k_dflt (refine' Spec.useN (check_sign_spec _ _ _ _ _ ?c0q451 _ _ ?c1q451) ?k1 ?k2 ?k3 ?k4 ?k5 ?kK ?ks ?kd ?ku ?_; (case c0q451 => assumption); (case c1q451 => assumption); k_extra "my sides"; intro h' tk' F' N'; (try k_sweep); (try dsimp only))))
  k_with "mine call ref" => ((k_here; (with_reducible show wpAny _ _ (call (Value.ref 162) _) _ _ _); k_dflt (refine' Spec.useN (check_clauses_spec _ _) ?k1 ?k2 ?k3 ?k4 ?k5 ?kK ?ks ?kd ?ku ?_; k_extra "my sides"; intro h' tk' F' N'; (try k_sweep); (try dsimp only))))
  k_with "mine call ref" => ((k_here; (with_reducible show wpAny _ _ (call (Value.ref 111) _) _ _ _); k_dflt (refine' Spec.use8 (shape_new8 _ _ _ _ _ _ _ _ ?c0q453 _ _ _ _) ?k1 ?k2 ?k3 ?k4 ?k5 ?kK ?ks ?kd ?ku ?_; (case c0q453 => assumption); k_extra "my sides"; intro x' dx' es' n' h' tk' F' N' hne' hS' hP' hX'; (try dsimp only [OffN, OffP] at hne'); (try k_sweep); (try dsimp only))))
  trivial
section
theorem shape_of_spec (w : World) (px pdx : Addr) (ps : List DictEntry) (pn : Nat) {us sn : Str} {d sc psize : Nat} {sg : Bool} (sep : Bool) (hP : PicIs ps (Str.ofString "numeric") d sc psize sg) (h0 : 1 ≤ d) (h1 : d ≤ 18) (t1 t2 : Tok)
    (hus : us = Str.ofString "display" ∨ us = Str.ofString "packed" ∨ us = Str.ofString "binary")
    (hsn : (sn = Str.ofString "trailing" ∧ sep = false) ∨ ((sn = Str.ofString "trailing" ∨ sn = Str.ofString "leading") ∧ sg = true ∧ us = Str.ofString "display")) :
    Spec w (hd.heap_1 w.params) 170 [.ref px, .str us t1, .str sn t2, .bool sep] [(px, instObj 291 pdx), (pdx, dictOf ps pn)] 5 (fun v new => ∃ x dx es n, v = .ref x ∧ new = [(x, instObj 111 dx), (dx, dictOf es n)] ∧ ShapeIs es (Str.ofString "numeric") us (sizeFor us d psize sep) d sg sep sn ∧ getL "sign_place" es = some none ∧ @LT.lt Nat _ dx x) := by
  have hP' := hP
  obtain ⟨⟨c1, hc1⟩, ⟨c2, hc2⟩, ⟨c3, hc3⟩, ⟨c4, hc4⟩, hc5⟩ := hP'
  unfold Spec
  intro dp un gd cn cs a ccd cl outer A₀ base h₀ L m mg mb mean news s Q E B F X N T hk hs hroom hun ret
  refine enterC B F X N T rfl rfl hk hs (by k_is) (by k_is) (show dp < recursionLimit from Nat.lt_of_le_of_lt (Nat.le_add_right _ _) hroom) (binds_K (X.keeps F.keep) rfl (by k_is) rfl rfl rfl) (locs rfl) ret ?_ rfl rfl rfl (by decide)
  clear B F X N T ret hs
  intro g L' h₁ gs5 dr5 tk os5 F' N' B' X' T' l1
  (try dsimp only)
  show wpAny _ _ _ _ _ _
  k_fold
  k_extra "my steps"
  rename ShapeIs _ _ _ _ _ _ _ _ => hS
  rename ((_ ≠ px ∧ _) ∧ _) => hne
  obtain ⟨⟨n1, n2⟩, ⟨n3, n4⟩, -⟩ := hne
  refine Ends.intro [_, _] (by k_asm) (by k_asm) (by kcj_all) (by kcj_all) ?_ ⟨_, _, _, _, rfl, rfl, hS, by assumption, by assumption⟩
  intro q hq p hp
  simp only [List.mem_cons, List.not_mem_nil, or_false] at hq hp
  rcases hq with rfl | rfl <;> rcases hp with rfl | rfl <;> assumption
end
theorem wd39 : True := by
  k_with "mine execs cons" => ((k_here; (with_reducible show wpAny _ _ (execs (PySem.Stmt.Assign [PySem.Expr.Attribute _ _ _] _ _ :: _) _) _ _ _); k_dflt (refine' init_step ?hCq454 ?Xq454 ?Fq454 ?Nq454 ?lq454 ?sq454 rfl ?vq454 ?sfq454 ?tq454 ?hlq454 ?hzq454 ?swq454 ?_; (case hCq454 => assumption); (case Xq454 => assumption); (case Fq454 => k_asm); (case Nq454 => k_asm); (case lq454 => assumption); (case sq454 => assumption); (case vq454 => exact rfl); (case sfq454 => exact rfl); (case tq454 => k_is); (case hlq454 => exact rfl); (case hzq454 => exact Nat.le_of_ble_eq_true rfl); (case swq454 => exact rfl); intro h' t' tk' n' F' N'; (try dsimp only [List.cons_append, List.nil_append] at N'); (try k_sweep))))
  trivial
section
structure SignIs (es : List DictEntry) (sn : Str) (c : Int) (pl : Int) : Prop where
  sign : ∃ t, getL "sign" es = some (some (.str sn t))
  count : ∃ t, getL "count" es = some (some (.int c t))
  place : ∃ t, getL "at" es = some (some (.int pl t))
theorem sign_new (w : World) (sn : Str) (c pl : Int) (t1 t2 t3 : Tok) :
    Spec w (hd.heap_1 w.params) 319 [.str sn t1, .int c t2, .int pl t3] [] 2 (fun v new => ∃ x dx es n, v = .ref x ∧ new = [(x, instObj 319 dx), (dx, dictOf es n)] ∧ SignIs es sn c pl ∧ getL "fault" es = some none ∧ @LT.lt Nat _ dx x) := by
  unfold Spec
  intro dp un gd cn cs a ccd cl outer A₀ base h₀ L m mg mb mean news s Q E B F X N T hk hs hroom hun ret
  refine enterI (binds := fun x => [(Str.ofString "self", .ref x), (Str.ofString "sign", .str sn t1), (Str.ofString "count", .int c t2), (Str.ofString "at", .int pl t3)]) (P := fun x new => ∃ dx es n, new = [(x, instObj 319 dx), (dx, dictOf es n)] ∧ SignIs es sn c pl ∧ getL "fault" es = some none ∧ @LT.lt Nat _ dx x) B F X N T rfl rfl hk hs (by k_is) (by k_is) (by k_is) (by k_is) (by k_is) (by simp only [depth_under_make]; show dp + 1 < recursionLimit; (first | lia | omega)) (fun x h' X' => BindsTo.of_eq rfl) (fun x => locs rfl) (fun x new h' tk' F N D P => ret _ new h' tk' F N D ?_) ?_ rfl rfl rfl (by decide)
  · obtain ⟨dx, es, n, e1, e2, e3, e4⟩ := P
    exact ⟨x, dx, es, n, rfl, e1, e2, e3, e4⟩
  clear B F X N T ret hs
  intro x dx g L' h₁ gs5 dr5 tk os5 ldx F' N' B' X' T' l1 l2
  have hC : PlainCls (hd.heap_1 w.params) 319 := ⟨by k_is, by k_is, by k_is⟩
  have hsub : ∀ p ∈ @List.nil (Addr × Obj), @Ne Nat p.1 dx := fun _ h => nomatch h
  (try dsimp only)
  show wpAny _ _ _ _ _ _
  k_fold
  k_extra "my steps"
  refine EndsI.intro [_, _] (by k_asm) (by k_asm) (fun _ h => nomatch h) (by kcj_all) (fun _ h => nomatch h) ⟨_, _, _, rfl, ⟨⟨_, rfl⟩, ⟨_, rfl⟩, ⟨_, rfl⟩⟩, rfl, ldx⟩
end
section
section
variable {prog : Program} {w : World} {A : Around} {E : Value → Shared → Prop} {s : Shared} {value slice : PySem.Expr} {x y z : Str} {t u : Tok} {i j : Int} {h₀ : Heap} {L : Addr} {m : Str → Option Value} {news : List (Addr × Obj)} {Q : Value → Shared → Prop}
theorem textSlice {uj : Tok} (hF : Fr h₀ L s.heap m) (hN : News h₀ L s.heap news) (hy : Txt.slice x (some i) (some j) = y) (hsz : x.length ≤ 1000)
    (h : ∀ h' t' k, Fr h₀ L h' m → News h₀ L h' news → Q (.str y t') { s with heap := h', toks := k })
    (hs : subscripted slice false (.str x t) (.ref s.heap.objs.size) = operate [.ref s.heap.objs.size, .str x t] (getItem (.str x t) (.ref s.heap.objs.size)))
    (ht : ∀ r, letTemporaryGo value (.str x t) r = pure ()) :
    wpAny (model prog w) A (subscriptTail value slice (.str x t) (.ref s.heap.objs.size)) Q E { s with heap := s.heap.push { cls := .type "slice", data := .fields #[.int i u, .int j uj, .none] } } := by
  subst hy
  exact slice_strN_ss_len hF hN (fun h' t' k a b _ => h h' t' k a b) hs ht (by rw [sizeLine_eq]; (first | lia | omega))
end
section
variable {prog : Program} {w : World} {A : Around} {E : Value → Shared → Prop} {s : Shared} {x y : Str} {t u : Tok} {Q : Value → Shared → Prop}
theorem notIn_none (hb : (Builtin.Str.occurrences x y 0 x.length 1).isEmpty = false) (h : Q (.bool false) s) : wpAny (model prog w) A (compareOp .NotIn (.str y u) (.str x t)) Q E s :=
  notIn_str (by rw [hb]; exact h)
end
/-- what sign_at reads at a place of a text -/
def SignFact (x : Str) (p : Int) (sn : Str) : Prop :=
  0 ≤ p ∧ p < (x.length : Int) ∧ Txt.item x p = sn ∧ ((sn = Str.ofString "S" ∧ (Txt.slice x (some p) (some (p + 2)) = Str.ofString "S9" ∨ Txt.slice x (some p) (some (p + 2)) = Str.ofString "SV")) ∨
    (sn = Str.ofString "9" ∧ Txt.slice x (some p) (some (p + 2)) = Str.ofString "9(") ∨ (sn = Str.ofString "V" ∧ Txt.slice x (some p) (some (p + 2)) = Str.ofString "V9"))
/-- what count_at reads at a place of a text -/
def CountFact (x : Str) (q : Int) (c e : Int) : Prop :=
  (c = 1 ∧ e = q ∧ (Txt.slice x (some q) (some (q + 1)) = Str.ofString "9" ∨ Txt.slice x (some q) (some (q + 1)) = Str.ofString "V")) ∨
  (Txt.slice x (some q) (some (q + 1)) = Str.ofString "(" ∧ q < e - 1 ∧ Txt.find3 x (Str.ofString ")") q = e - 1 ∧ 1 ≤ (Txt.slice x (some (q + 1)) (some (e - 1))).length ∧ (Txt.slice x (some (q + 1)) (some (e - 1))).length ≤ 2 ∧
    PySem.intText? (Txt.slice x (some (q + 1)) (some (e - 1))) = some c ∧ 1 ≤ c ∧ ∀ k ∈ (Txt.slice x (some (q + 1)) (some (e - 1))).cps.toList, 48 ≤ k ∧ k ≤ 57)
section
variable {prog : Program} {w : World} {A : Around} {E : Value → Shared → Prop} {s : Shared} {x y : Str} {t u v : Tok} {i z : Int} {Q : Value → Shared → Prop}
theorem find_known (hz : Txt.find3 x y i = z) (h : ∀ t k, Q (.int z t) { s with toks := k }) : wpAny (model prog w) A (call (.builtin "str.find") [.str x t, .str y u, .int i v]) Q E s :=
  SC.find3 (by rw [hz]; exact h _ _)
end
/-- a comprehension with one test over a text -/
def TextSrcT (prog : Program) (w : World) (A : Around) (h₀ : Heap) (L : Addr) (m : Str → Option Value) (env : Env) (ct elt : PySem.Expr) (x : Str) (scope : Scope) (cl : List (Str × Addr)) (Fin : Shared → List Value → List (Addr × Obj) → Prop) (xv : Value) (s₁ : Shared) : Prop :=
  ∃ y ty news, xv = .str y ty ∧ A.handled = none ∧ Fr h₀ L s₁.heap m ∧ News h₀ L s₁.heap news ∧ y.cps.size ≤ sizeLine ∧ y.cps.all (· < 128) = true ∧
    ∀ s₂ : Shared, (∃ h, s₂ = { s₁ with heap := h }) → LCt.CompRestT prog w A h₀ L m env ct elt x scope cl s₂ (fun _ => True) (SignAt y) (Fin s₂) y.cps.size 0 [] news
section
variable {prog : Program} {w : World} {A : Around} {E : Value → Shared → Prop} {s : Shared} {h₀ : Heap} {L : Addr} {m : Str → Option Value} {env : Env}
/-- no item passes the test -/
theorem rest_none {ct elt : PySem.Expr} {x : Str} {scope : Scope} {cl : List (Str × Addr)} {s : Shared} {S : List (Addr × Obj) → Prop} {P : Nat → Value → Prop} {Fin : List Value → List (Addr × Obj) → Prop} {news : List (Addr × Obj)}
    (fin : Fin [] news) : ∀ (j i : Nat), (∀ k v I oI C oC D m₂ h tk (E' : Value → Shared → Prop), i ≤ k → k < i + j → P k v → LCg.NsObj oC m₂ → m₂ x = some v → Fr h₀ L h m → News h₀ L h ((I, oI) :: (C, oC) :: (D, LCg.lst []) :: news) → LCg.Off3 I C D news → ((@Ne Nat I C) ∧ (@Ne Nat I D) ∧ (@Ne Nat C D)) → KPfMark →
      wpAny (model prog w) A (isTrue ct (compEnvC scope cl C env) (eval ct (compEnvC scope cl C env))) (fun ok s' => ok = false ∧ LCg.CompEnd h₀ L m { s with heap := h, toks := tk } I oI C oC D (LCg.lst []) S (fun _ news' => news' = news) .none s') E' { s with heap := h, toks := tk }) →
    LCt.CompRestT prog w A h₀ L m env ct elt x scope cl s S P Fin j i [] news
  | 0, _, _ => fin
  | j + 1, i, turn => by
    refine LCt.CompRestT.succ ?_
    intro v I oI C oC D m₂ h tk E' hv hC hx F N off ne
    refine wpAny_mono (turn i v I oI C oC D m₂ h tk E' (Nat.le_refl _) (by (first | lia | omega)) hv hC hx F N off ne True.intro) (fun ok s' hq => ?_) fun _ _ e => e
    obtain ⟨rfl, h', tk', nw, e, F', N', off', hS, hn⟩ := hq
    subst hn
    rw [if_neg Bool.false_ne_true]
    exact ⟨h', tk', nw, e, F', N', off', hS, rest_none fin j (i + 1) fun k v I oI C oC D m₂ h tk E' h1 h2 => turn k v I oI C oC D m₂ h tk E' (by (first | lia | omega)) (by (first | lia | omega))⟩
theorem TextSrcT.none {ct elt : PySem.Expr} {x : Str} {scope : Scope} {cl : List (Str × Addr)} {Fin : Shared → List Value → List (Addr × Obj) → Prop} {y : Str} {ty : Tok} {news : List (Addr × Obj)} {s₁ : Shared}
    (hh : A.handled = none) (F : Fr h₀ L s₁.heap m) (N : News h₀ L s₁.heap news) (hsz : y.length ≤ 1000) (ha : ∀ k ∈ y.cps.toList, k < 128)
    (turn : ∀ s₂ : Shared, (∃ h, s₂ = { s₁ with heap := h }) → ∀ c t I oI C oC D m₂ h tk (E' : Value → Shared → Prop), c ∈ y.cps.toList → LCg.NsObj oC m₂ → m₂ x = some (.str ⟨#[c]⟩ t) → Fr h₀ L h m → News h₀ L h ((I, oI) :: (C, oC) :: (D, LCg.lst []) :: news) → LCg.Off3 I C D news → ((@Ne Nat I C) ∧ (@Ne Nat I D) ∧ (@Ne Nat C D)) → KPfMark →
      wpAny (model prog w) A (isTrue ct (compEnvC scope cl C env) (eval ct (compEnvC scope cl C env))) (fun ok s' => ok = false ∧ LCg.CompEnd h₀ L m { s₂ with heap := h, toks := tk } I oI C oC D (LCg.lst []) (fun _ => True) (fun _ news' => news' = news) .none s') E' { s₂ with heap := h, toks := tk })
    (fin : ∀ s₂ : Shared, (∃ h, s₂ = { s₁ with heap := h }) → Fin s₂ [] news) : TextSrcT prog w A h₀ L m env ct elt x scope cl Fin (.str y ty) s₁ := by
  refine ⟨y, ty, news, rfl, hh, F, N, (by rw [sizeLine_eq]; exact Nat.le_trans hsz (by decide)), ?_, fun s₂ e => rest_none (fin s₂ e) _ _ fun k v I oI C oC D m₂ h tk E' _ _ hv hC hx => ?_⟩
  · rw [Array.all_eq_true']
    intro c hc
    exact decide_eq_true (ha c (Array.mem_toList_iff.mpr hc))
  · obtain ⟨c, t, hc, rfl⟩ := hv
    exact turn s₂ e c t I oI C oC D m₂ h tk E' (by rw [← Array.getElem?_toList] at hc; exact List.mem_of_getElem? hc) hC hx
theorem ListComp_textT {ct elt iter : PySem.Expr} {x : Str} {px : Pos} {scope : Scope} {cl : List (Str × Addr)} {pos : Pos} {Q : Value → Shared → Prop} (F₀ : Fr h₀ L s.heap m)
    (hclos : closureFor scope env = pure cl) (hcell : ∀ y ∈ scope.names, y.2 ≠ .cell) (hkind : scope.kind = .function)
    (hnames : ∀ y ∈ scope.names, y.2 = .local → scope.names.lookup y.1 = some .local) (hx : scope.names.lookup x = some .local)
    (h : wpAny (model prog w) A (eval iter env) (TextSrcT prog w A h₀ L m env ct elt x scope cl (fun s₂ => LCg.FinE h₀ L m s₂ Q)) E s)
    (hs : ∀ x, foldedSetIterable iter env x = pure x) :
    wpAny (model prog w) A (eval (.ListComp elt [⟨.Name x px, iter, [ct], 0⟩] scope pos) env) Q E s := by
  rw [eval_ListComp]
  refine wpAny_comprehension_free (use := none) rfl hs hclos hkind hnames (wpAny_mono h (fun xv s₁ h₁ => ?_) fun _ _ e => e)
  obtain ⟨y, ty, news, rfl, hh, F, N, hsz, ha, R⟩ := h₁
  refine wpAny_pyIter_ascii ha ?_
  refine LCt.block_T (Walks.strAscii hh s₁.heap.objs.size y ty) hsz (fun i h st => by obtain ⟨o, e, _⟩ := st; exact ⟨o, e⟩) (fun i h h' o nw st e e' _ _ _ => ?_) hcell hkind hx ⟨_, Heap.get?_push_size _ rfl, rfl, rfl⟩ (fun b hb => ?_)
    (F.keeps fun _ _ e => Heap.get?_push_of_some _ e) (N.grown fun _ _ e => Heap.get?_push_of_some _ e) (Nat.ne_of_lt F.ns.lt) (next_is_new F) (fun p hp => Nat.ne_of_lt (Heap.lt_size (N p hp).1)) trivial (R _ ⟨_, rfl⟩) ?_
  · obtain ⟨o', q, r⟩ := st
    rw [e] at q; cases q
    exact ⟨o, e', r⟩
  · rw [List.mem_singleton.mp hb]
    show s₁.heap.objs.size < (s₁.heap.push _).objs.size
    rw [Heap.size_push]; exact Nat.lt_succ_self _
  · intro D C h tk m' ys news' F' N' o1 hn hC₀ hD₀ hCL hDL hCD offC fin
    refine ⟨m', hn, fun h'' hs'' => fin D h'' tk (F'.change hs'' hCL hC₀) (fun p hp => ?_) o1⟩
    refine ⟨hs''.extBut _ _ ?_ (N' p hp).1, (N' p hp).2⟩
    rcases List.mem_cons.mp hp with rfl | hp
    · exact Ne.symm hCD
    · exact offC p hp
end
section
variable {prog : Program} {w : World} {A : Around} {E : Value → Shared → Prop} {s : Shared} {h₀ : Heap} {L a b : Addr} {news : List (Addr × Obj)} {Q : Value → Shared → Prop}
theorem ne_nil_nil {n n' : Nat} (N : News h₀ L s.heap news) (ha : (a, W.listOf #[] n) ∈ news) (hb : (b, W.listOf #[] n') ∈ news) (hu : A.units < cLine) (h : Q (.bool false) s) : wpAny (model prog w) A (compareOp .NotEq (.ref a) (.ref b)) Q E s :=
  SeqAt.RcNeAt.lists (e := fun _ => true) ⟨_, (N _ ha).1, rfl, _, rfl⟩ ⟨_, (N _ hb).1, rfl, _, rfl⟩ rfl hu (fun j h1 => absurd h1 (Nat.not_lt_zero j)) prog w E Q h
theorem ne_some_nil {n n' : Nat} {vs : List Value} (N : News h₀ L s.heap news) (ha : (a, W.listOf vs.toArray n) ∈ news) (hb : (b, W.listOf #[] n') ∈ news) (hv : vs ≠ []) (hu : A.units < cLine) (h : Q (.bool true) s) : wpAny (model prog w) A (compareOp .NotEq (.ref a) (.ref b)) Q E s :=
  SeqAt.RcNeAt.lists_lengths ⟨_, (N _ ha).1, rfl, _, rfl⟩ ⟨_, (N _ hb).1, rfl, _, rfl⟩ (by cases vs with
    | nil => exact absurd rfl hv
    | cons x r => simp) hu prog w E Q h
end
end
section
theorem wd40 : True := by
  k_with "mine subscriptTail Name Slice str ref" => ((k_here; (with_reducible show wpAny _ _ (subscriptTail _ (Expr.Slice (some _) (some _) none _) (Value.str _ _) (Value.ref _)) _ _ _); k_dflt (refine' textSlice (s := ⟨_, _, _, _, _⟩) ?Fq455 ?Nq455 ?aq455 ?bq455 ?_ ?hsq455 ?htq455; (case Fq455 => k_asm); (case Nq455 => k_asm); (case aq455 => assumption); (case bq455 => (first | lia | omega)); (case hsq455 => with_unfolding_all rfl); (case htq455 => intro _; with_unfolding_all rfl)); intro _ _ _ _ _; (try k_sweep)))
  k_with "mine subscriptTail Name Name str int" => ((k_here; (with_reducible show wpAny _ _ (subscriptTail _ _ (Value.str _ _) (Value.int _ _)) _ _ _); k_dflt (refine' textItem ?aq456 ?iq456 ?jq456 ?bq456 ?_ ?hsq456 ?htq456; (case aq456 => assumption); (case iq456 => (first | lia | omega)); (case jq456 => (first | lia | omega)); (case bq456 => (first | lia | omega)); (case hsq456 => with_unfolding_all rfl); (case htq456 => intro _; with_unfolding_all rfl)); intro _ _; (try k_sweep)))
  k_with "mine compareOp NotIn str str" => ((k_here; (with_reducible show wpAny _ _ (compareOp _ (Value.str _ _) (Value.str _ _)) _ _ _); refine notIn_none (by decide +kernel) ?_))
  trivial
theorem sign_at_spec (w : World) (x : Str) (p : Int) (sn : Str) (t1 t2 : Tok) (hx : x.length ≤ 20) (hf : SignFact x p sn) :
    Spec w (hd.heap_1 w.params) 330 [.str x t1, .int p t2] [] 1 (fun v new => new = [] ∧ ∃ t, v = .str sn t) := by
  obtain ⟨h0, hp, hi, hc⟩ := hf
  unfold Spec
  intro dp un gd cn cs a ccd cl outer A₀ base h₀ L m mg mb mean news s Q E B F X N T hk hs hroom hun ret
  refine enterC (binds := [(Str.ofString "text", .str x t1), (Str.ofString "at", .int p t2)]) B F X N T rfl rfl hk hs (by k_is) (by k_is) (show dp < recursionLimit from Nat.lt_of_le_of_lt (Nat.le_add_right _ _) hroom) (BindsTo.of_eq rfl) (locs rfl) ret ?_ rfl rfl rfl (by decide)
  clear B F X N T ret hs
  intro g L' h₁ gs5 dr5 tk os5 F' N' B' X' T' l1
  (try dsimp only)
  show wpAny _ _ _ _ _ _
  k_fold
  rcases hc with ⟨rfl, hc | hc⟩ | ⟨rfl, hc⟩ | ⟨rfl, hc⟩
  all_goals (
    k_extra "my steps"
    exact Ends.plain (by k_asm) (by k_asm) (by kcj_all) ⟨rfl, _, rfl⟩)
end
theorem wd41 : True := by
  k_with_none
  k_with "my fold" => (((first | (with_reducible show wpAny _ _ (exec (PySem.Stmt.Assign _ _ _) _) _ _ _) | (with_reducible show wpAny _ _ (exec (PySem.Stmt.Return _ _) _) _ _ _) | (with_reducible show wpAny _ _ (exec (PySem.Stmt.If _ _ _ _) _) _ _ _) | (with_reducible show wpAny _ _ (exec (PySem.Stmt.Expr _ _) _) _ _ _) | (with_reducible show wpAny _ _ (exec (PySem.Stmt.AugAssign _ _ _ _) _) _ _ _) | (with_reducible show wpAny _ _ (eval (PySem.Expr.BinOp _ _ _ _) _) _ _ _) | (with_reducible show wpAny _ _ (eval (PySem.Expr.Call _ _ _ _) _) _ _ _)); (fail_if_success (fail_if_success k_fold)); refine (let qk := _; keepQ qk ?_)))
  k_with "my get" => (assumption)
  k_with "mine call type:range" => ((k_here; (rename Fr _ _ _ _ => F'); (rename News _ _ _ _ => N'); (with_unfolding_all refine range1_rows F' N' ?_; intro _ _ _ _ _ _ _ _ _)))
  k_with "my steps" => (repeat' (first | ((fail_if_success (fail_if_success k_unfold)); (try dsimp only); refine (?_ : wpAny _ _ _ _ _ _)) | (k_unfold; (try dsimp only)) | k_extra "my fold" | ((fail_if_success (with_reducible show wpAny _ _ (pyIter _) (fun it s₂ => LoopAtV _ _ _ _ _ _ _ _ _ it s₂) _ _)); (fail_if_success (with_reducible show wpAny _ _ (pyIter _) (fun it s₂ => PairAt3 _ _ _ _ _ _ _ _ _ _ it s₂) _ _)); (fail_if_success (with_reducible show LoopStep3 _ _ _ _ _ _ _ _ _ _)); (fail_if_success (with_reducible show InvEndN _ _ _ _ _ _ _)); (fail_if_success (with_reducible show Ends _ _ _ _ _ _)); first | walk1 | (dsimp only; walk1) | (dsimp only; k_unfold; (try dsimp only)))))
  k_with "my plain steps" => (repeat' (first | ((fail_if_success (fail_if_success k_unfold)); (try dsimp only); refine (?_ : wpAny _ _ _ _ _ _)) | (k_unfold; (try dsimp only)) | ((fail_if_success (with_reducible show wpAny _ _ (pyIter _) (fun it s₂ => LoopAtV _ _ _ _ _ _ _ _ _ it s₂) _ _)); (fail_if_success (with_reducible show wpAny _ _ (pyIter _) (fun it s₂ => PairAt3 _ _ _ _ _ _ _ _ _ _ it s₂) _ _)); (fail_if_success (with_reducible show LoopStep3 _ _ _ _ _ _ _ _ _ _)); (fail_if_success (with_reducible show InvEndN _ _ _ _ _ _ _)); (fail_if_success (with_reducible show Ends _ _ _ _ _ _)); first | walk1 | (dsimp only; walk1) | (dsimp only; k_unfold; (try dsimp only)))))
  k_with "my bytes" => (first | exact all48 (by assumption) | (refine all_cons (by decide) ?_; k_extra "my bytes") | (refine all_snoc (by decide) ?_; k_extra "my bytes"))
  k_with "my size" => (first | (first | lia | omega) | ((try simp only [List.length_map, List.length_cons, List.length_append, List.length_nil, List.length_set, List.length_reverse, lits_length, figs_length, stepKs_length]); (first | lia | omega)))
  k_with "mine call type:bytes" => ((k_here; (with_reducible show wpAny _ _ (call (Value.type "bytes") [Value.ref _]) _ _ _); k_dflt (refine' bytesOf_K ?Fq465 ?Nq465 ?mq465 ?iq465 ?rq465 ?zq465 ?hq465 ?_; (case Fq465 => k_asm); (case Nq465 => k_asm); (case mq465 => k_mem); (case iq465 => assumption); (case rq465 => k_extra "my bytes"); (case zq465 => k_extra "my size"); (case hq465 => exact rfl); k_whole); intro h' t' k' F' N'; (try k_sweep)))
  k_with "my bytes" => ((refine all_set (u8_in _) ?_; k_extra "my bytes"))
  k_with "my byte at" => ((refine fig_at (by assumption) ?_; k_extra "my size"))
  k_with "mine subscriptTail" => ((k_here; (with_reducible show wpAny _ _ (subscriptTail _ _ (Value.bytes _ _) (Value.int _ _)) _ _ _); k_dflt (refine' bytesItem_K ?aq468 ?bq468 ?_ ?hsq468 ?htq468; (case aq468 => k_extra "my byte at"); (case bq468 => decide); (case hsq468 => with_unfolding_all rfl); (case htq468 => intro _; with_unfolding_all rfl))))
  k_with "my index" => (first | (first | lia | omega) | decide | assumption)
  k_with "mine compareOp In" => ((k_here; (with_reducible show wpAny _ _ (compareOp CmpOp.In (Value.int _ _) (Value.bytes _ _)) _ _ _); k_dflt (refine' in_bytes ?aq470 ?bq470 ?_; (case aq470 => (first | lia | omega)); (case bq470 => (first | lia | omega)))))
  k_with "mine getMethod" => ((k_here; (with_reducible show wpAny _ _ (getMethod (Value.bytes _ _) "index" _) _ _ _); refine index_method ?_))
  k_with "mine call builtin:bytes.index" => ((k_here; (with_reducible show wpAny _ _ (call (Value.builtin "bytes.index") [Value.bytes _ _, Value.int _ _]) _ _ _); k_dflt (refine' bytes_index _ ?aq472 ?bq472 ?cq472 ?dq472 ?_; (case aq472 => (first | lia | omega)); (case bq472 => (first | lia | omega)); (case cq472 => decide); (case dq472 => assumption)); intro _ _; (try dsimp only)))
  k_with "mine subscriptTail" => ((k_here; (with_reducible show wpAny _ _ (subscriptTail _ _ (Value.bytes (byteArr _) _) (Value.int _ _)) _ _ _); k_dflt (refine' bytesInt_K ?aq473 ?bq473 ?rq473 ?zq473 ?_ ?hsq473 ?htq473; (case aq473 => (first | lia | omega)); (case bq473 => assumption); (case rq473 => first | assumption | k_extra "my bytes"); (case zq473 => k_extra "my size"); (case hsq473 => with_unfolding_all rfl); (case htq473 => intro _; with_unfolding_all rfl)); intro _ _; (try dsimp only)))
  k_with "my pick" => ((with_reducible first | exact kmk_upto (by l_ints) (by (first | lia | omega)) | exact kmk_from (by l_ints) (by (first | lia | omega)) | exact kmk_upto_neg (by l_ints) (by (first | lia | omega)) | exact kmk_from_neg (by l_ints) (by (first | lia | omega))))
  k_with "mine subscriptTail Name Slice ref ref" => ((k_here; (with_reducible show wpAny _ _ (subscriptTail _ (PySem.Expr.Slice _ _ none _) (Value.ref _) (Value.ref _)) _ _ _); k_dflt (refine' kmk_slice_ints ?Fq475 ?Nq475 ?lq475 ?pq475 ?qq475 ?iq475 ?mq475 ?cq475 ?_ ?sq475 ?tq475 ?zq475; (case Fq475 => k_asm); (case Nq475 => k_asm); (case lq475 => kmk_list); (case pq475 => kmk_part); (case qq475 => kmk_part); (case iq475 => l_ints); (case mq475 => k_extra "my pick"); (case cq475 => kmk_len); (case sq475 => with_unfolding_all rfl); (case tq475 => kmk_pure); (case zq475 => kmk_size)); intro D' ws' h' F' N' l1 hI' hC' hL'; (try k_lt l1); (try k_sweep)))
  k_with "my ints" => (first | l_ints | exact IntsAre.cons _ _ IntsAre.nil | exact IntsAre.cons _ _ (IntsAre.cons _ _ IntsAre.nil))
  k_with "mine binaryOp Add ref ref" => ((k_here; (with_reducible show wpAny _ _ (binaryOp _ (Value.ref _) (Value.ref _)) _ _ _); k_dflt (refine' kmk_add_ints ?Fq477 ?Nq477 ?aq477 ?bq477 ?iq477 ?jq477 ?_ ?zq477; (case Fq477 => k_asm); (case Nq477 => k_asm); (case aq477 => kmk_list); (case bq477 => kmk_list); (case iq477 => k_extra "my ints"); (case jq477 => k_extra "my ints"); (case zq477 => first | ((simp only [sizeLine_eq]); k_extra "my size") | kmk_sum)); intro D' ws' h' F' N' l1 hI'; (try k_lt l1); (try k_sweep)))
  k_with "mine call builtin:len" => ((k_here; (with_reducible show wpAny _ _ (call (Value.builtin "len") [Value.bytes (byteArr _) _]) _ _ _); k_dflt (refine' len_byteArr ?zq478 ?_; (case zq478 => k_extra "my size")); intro _ _; (try dsimp only)))
  k_with "mine call builtin:ord" => ((k_here; (with_reducible show wpAny _ _ (call (Value.builtin "ord") [Value.str _ _]) _ _ _); refine ord_of_char ?_; (try dsimp only)))
  k_with "my text slice" => (((with_reducible rename Fr _ _ _ _ => F'); (with_reducible rename News _ _ _ _ => N'); first | ((with_reducible show wpAny _ _ (subscriptTail _ (Expr.Slice none (some _) none _) _ _) _ _ _); (refine slice_strN_ns_len (hsz := ?hszq480) (s := ⟨_, _, _, _, _⟩) F' N' ?_); (case hszq480 => rw [sizeLine_eq]; (first | lia | omega))) | ((with_reducible show wpAny _ _ (subscriptTail _ (Expr.Slice (some _) none none _) _ _) _ _ _); (refine slice_strN_sn_len (hsz := ?hszq480) (s := ⟨_, _, _, _, _⟩) F' N' ?_); (case hszq480 => rw [sizeLine_eq]; (first | lia | omega)))))
  k_with "my units" => (((try simp only [units_in1, units_deeper, Around.mark_units]); (try dsimp only [ktrTop]); (first | lia | omega)))
  k_with "my tail" => ((first | assumption | (refine' And.right ?_; first | assumption | (refine' And.right ?_; first | assumption | (refine' And.right ?_; first | assumption | (refine' And.right ?_; first | assumption | (refine' And.right ?_; first | assumption | (refine' And.right ?_; first | assumption | (refine' And.right ?_; first | assumption | (refine' And.right ?_; first | assumption | (refine' And.right ?_; assumption)))))))))))
  k_with "my conj" => (first | k_extra "my tail" | (refine' And.left ?_; k_extra "my tail") | (refine' And.left ?_; refine' And.left ?_; k_extra "my tail") | (refine' And.right ?_; refine' And.left ?_; k_extra "my tail"))
  k_with "my ne" => ((refine neN ?_; (try dsimp only); first | (refine' Nat.ne_of_lt ?_; k_extra "my conj") | (refine' Nat.ne_of_gt ?_; k_extra "my conj") | k_extra "my conj" | (refine' Ne.symm ?_; k_extra "my conj") | (first | lia | omega)))
  k_with "my sides" => (((case k1 => k_asm); (case k2 => k_asm); (case k3 => k_asm); (case k4 => k_asm); (case k5 => k_asm); (case kK => first | assumption | exact rfl); (case ks => kcj_all); (case kd => first | ((try simp only [depth_mark, depth_under_make, depth_under_kw, depth_in1, depth_deeper]); (try dsimp only [ktrTop]); first | (refine' room3 ?hhq485 ?llq485; (case hhq485 => assumption); (case llq485 => exact Nat.le_of_ble_eq_true rfl)) | (first | lia | omega)) | (with_unfolding_all exact Nat.le_of_ble_eq_true rfl)); (case ku => first | ((try simp only [units_in1, units_deeper, Around.mark_units]); (try dsimp only [ktrTop]); first | (refine' room3 ?hhq485 ?llq485; (case hhq485 => assumption); (case llq485 => exact Nat.le_of_ble_eq_true rfl)) | (first | lia | omega)) | (with_unfolding_all exact Nat.le_of_ble_eq_true rfl))))
  k_with "mine compareOp NotEq ref ref" => ((k_here; (with_reducible show wpAny _ _ (compareOp CmpOp.NotEq (Value.ref _) (Value.ref _)) _ _ _); first | k_dflt (refine' ne_nil_nil ?Nq486 ?aq486 ?bq486 ?uq486 ?_; (case Nq486 => k_asm); (case aq486 => k_mem); (case bq486 => k_mem); (case uq486 => k_extra "my units")) | k_dflt (refine' ne_some_nil ?Nq486 ?aq486 ?bq486 ?vq486 ?uq486 ?_; (case Nq486 => k_asm); (case aq486 => k_mem); (case bq486 => k_mem); (case vq486 => simp); (case uq486 => k_extra "my units"))))
  trivial
section
theorem wd42 : True := by
  k_with "mine subscriptTail Name Slice str ref" => ((k_here; (with_reducible show wpAny _ _ (subscriptTail _ (Expr.Slice (some _) (some _) none _) (Value.str _ _) (Value.ref _)) _ _ _); k_dflt (refine' textSlice (s := ⟨_, _, _, _, _⟩) ?Fq487 ?Nq487 ?aq487 ?bq487 ?_ ?hsq487 ?htq487; (case Fq487 => k_asm); (case Nq487 => k_asm); (case aq487 => assumption); (case bq487 => (first | lia | omega)); (case hsq487 => with_unfolding_all rfl); (case htq487 => intro _; with_unfolding_all rfl)); intro _ _ _ _ _; (try k_sweep)))
  k_with "mine call builtin:str.find" => ((k_here; k_dflt (refine' find_known ?aq488 ?_; (case aq488 => assumption)); intro _ _; (try dsimp only)))
  k_with "mine compareOp NotIn str str" => ((k_here; (with_reducible show wpAny _ _ (compareOp _ (Value.str _ _) (Value.str _ _)) _ _ _); refine notIn_none (by assumption) ?_))
  k_with "mine eval ListComp" => ((k_here; k_dflt (refine ListComp_textT (F₀ := by k_asm) (by with_unfolding_all rfl) (by decide) (by rfl) (by decide) (by rfl) ?_ (fun _ => rfl))))
  trivial
theorem digit_in : ∀ c, 48 ≤ c → c ≤ 57 → (Builtin.Str.occurrences (Str.ofString "0123456789") ⟨#[c]⟩ 0 (Str.ofString "0123456789").length 1).isEmpty = false := by
  intro c h1 h2
  have key : ∀ k : Nat, k < 10 → (Builtin.Str.occurrences (Str.ofString "0123456789") ⟨#[48 + k]⟩ 0 (Str.ofString "0123456789").length 1).isEmpty = false := by decide +kernel
  have := key (c - 48) (by (first | lia | omega))
  rwa [show 48 + (c - 48) = c by (first | lia | omega)] at this
theorem count_one_spec (w : World) (x : Str) (q : Int) (t1 t2 : Tok) (hx : x.length ≤ 20) (hs2 : Txt.slice x (some q) (some (q + 1)) = Str.ofString "9" ∨ Txt.slice x (some q) (some (q + 1)) = Str.ofString "V") :
    Spec w (hd.heap_1 w.params) 335 [.str x t1, .int q t2] [] 1 (fun v new => ∃ D t' t'', v = .ref D ∧ new = [(D, { cls := .type "tuple", data := .seq #[.int 1 t', .int q t''] })]) := by
  unfold Spec
  intro dp un gd cn cs a ccd cl outer A₀ base h₀ L m mg mb mean news s Q E B F X N T hk hs hroom hun ret
  refine enterC (binds := [(Str.ofString "text", .str x t1), (Str.ofString "at", .int q t2)]) B F X N T rfl rfl hk hs (by k_is) (by k_is) (show dp < recursionLimit from Nat.lt_of_le_of_lt (Nat.le_add_right _ _) hroom) (BindsTo.of_eq rfl) (locs rfl) ret ?_ rfl rfl rfl (by decide)
  clear B F X N T ret hs
  intro g L' h₁ gs5 dr5 tk os5 F' N' B' X' T' l1
  (try dsimp only)
  show wpAny _ _ _ _ _ _
  k_fold
  rcases hs2 with hs2 | hs2
  all_goals (
    k_extra "my steps"
    exact Ends.intro [_] (by k_asm) (by k_asm) (fun _ h => nomatch h) (by kcj_all) (fun _ h => nomatch h) ⟨_, _, _, rfl, rfl⟩)
theorem count_fig_spec (w : World) (x f : Str) (q c e : Int) (t1 t2 : Tok) (hx : x.length ≤ 20) (hs2 : Txt.slice x (some q) (some (q + 1)) = Str.ofString "(") (hq : q < e) (hf : Txt.find3 x (Str.ofString ")") q = e)
    (hsf : Txt.slice x (some (q + 1)) (some e) = f) (hl1 : 1 ≤ f.length) (hl2 : f.length ≤ 2) (hi : PySem.intText? f = some c) (hc : 1 ≤ c) (hk9 : ∀ k ∈ f.cps.toList, 48 ≤ k ∧ k ≤ 57) :
    Spec w (hd.heap_1 w.params) 335 [.str x t1, .int q t2] [] 1 (fun v new => ∃ D t' t'', v = .ref D ∧ new = [(D, { cls := .type "tuple", data := .seq #[.int c t', .int (e + 1) t''] })]) := by
  unfold Spec
  intro dp un gd cn cs a ccd cl outer A₀ base h₀ L m mg mb mean news s Q E B F X N T hk hs hroom hun ret
  refine enterC (binds := [(Str.ofString "text", .str x t1), (Str.ofString "at", .int q t2)]) B F X N T rfl rfl hk hs (by k_is) (by k_is) (show dp < recursionLimit from Nat.lt_of_le_of_lt (Nat.le_add_right _ _) hroom) (BindsTo.of_eq rfl) (locs rfl) ret ?_ rfl rfl rfl (by decide)
  clear B F X N T ret hs
  intro g L' h₁ gs5 dr5 tk os5 F' N' B' X' T' l1
  (try dsimp only)
  show wpAny _ _ _ _ _ _
  k_fold
  have hsf2 : Txt.slice x (some (q + 1)) (some (if q > e then q else e)) = f := by rw [if_neg (by (first | lia | omega))]; exact hsf
  k_extra "my steps"
  rename Fr _ _ _ _ => hF
  rename News _ _ _ _ => hN
  refine TextSrcT.none rfl hF hN (by (first | lia | omega)) (fun k hk => by have := hk9 k hk; (first | lia | omega)) ?_ ?_
  · intro s₂ hs₂ c9 t I oI C oC D m₂ h tk E' hk hC hx F₂ N₂ off ne hMk
    obtain ⟨h9, rfl⟩ := hs₂
    have hd9 := digit_in c9 (hk9 c9 hk).1 (hk9 c9 hk).2
    have off9 := off
    clear hF hN
    simp only [LCg.Off3, and_true] at off
    (try dsimp only)
    show wpAny _ _ _ _ _ _
    k_fold
    k_extra "my steps"
  · intro s₂ hs₂ D h tk F₂ N₂ off
    obtain ⟨h9, rfl⟩ := hs₂
    have N₃ : News g L' h [(D, W.listOf #[] 0)] := N₂
    clear hF hN N₂
    (try dsimp only)
    k_extra "my steps"
    all_goals first | (exfalso; (first | lia | omega)) | skip
    show Ends _ _ _ _ _ _
    exact Ends.intro [_] (by k_asm) (by k_asm) (fun _ h => nomatch h) (by kcj_all) (fun _ h => nomatch h) ⟨_, _, _, rfl, rfl⟩
end
theorem wd43 : True := by
  k_with_none
  k_with "my fold" => (((first | (with_reducible show wpAny _ _ (exec (PySem.Stmt.Assign _ _ _) _) _ _ _) | (with_reducible show wpAny _ _ (exec (PySem.Stmt.Return _ _) _) _ _ _) | (with_reducible show wpAny _ _ (exec (PySem.Stmt.If _ _ _ _) _) _ _ _) | (with_reducible show wpAny _ _ (exec (PySem.Stmt.Expr _ _) _) _ _ _) | (with_reducible show wpAny _ _ (exec (PySem.Stmt.AugAssign _ _ _ _) _) _ _ _) | (with_reducible show wpAny _ _ (eval (PySem.Expr.BinOp _ _ _ _) _) _ _ _) | (with_reducible show wpAny _ _ (eval (PySem.Expr.Call _ _ _ _) _) _ _ _)); (fail_if_success (fail_if_success k_fold)); refine (let qk := _; keepQ qk ?_)))
  k_with "my get" => (assumption)
  k_with "mine call type:range" => ((k_here; (rename Fr _ _ _ _ => F'); (rename News _ _ _ _ => N'); (with_unfolding_all refine range1_rows F' N' ?_; intro _ _ _ _ _ _ _ _ _)))
  k_with "my steps" => (repeat' (first | ((fail_if_success (fail_if_success k_unfold)); (try dsimp only); refine (?_ : wpAny _ _ _ _ _ _)) | (k_unfold; (try dsimp only)) | k_extra "my fold" | ((fail_if_success (with_reducible show wpAny _ _ (pyIter _) (fun it s₂ => LoopAtV _ _ _ _ _ _ _ _ _ it s₂) _ _)); (fail_if_success (with_reducible show wpAny _ _ (pyIter _) (fun it s₂ => PairAt3 _ _ _ _ _ _ _ _ _ _ it s₂) _ _)); (fail_if_success (with_reducible show LoopStep3 _ _ _ _ _ _ _ _ _ _)); (fail_if_success (with_reducible show InvEndN _ _ _ _ _ _ _)); (fail_if_success (with_reducible show Ends _ _ _ _ _ _)); first | walk1 | (dsimp only; walk1) | (dsimp only; k_unfold; (try dsimp only)))))
  k_with "my plain steps" => (repeat' (first | ((fail_if_success (fail_if_success k_unfold)); (try dsimp only); refine (?_ : wpAny _ _ _ _ _ _)) | (k_unfold; (try dsimp only)) | ((fail_if_success (with_reducible show wpAny _ _ (pyIter _) (fun it s₂ => LoopAtV _ _ _ _ _ _ _ _ _ it s₂) _ _)); (fail_if_success (with_reducible show wpAny _ _ (pyIter _) (fun it s₂ => PairAt3 _ _ _ _ _ _ _ _ _ _ it s₂) _ _)); (fail_if_success (with_reducible show LoopStep3 _ _ _ _ _ _ _ _ _ _)); (fail_if_success (with_reducible show InvEndN _ _ _ _ _ _ _)); (fail_if_success (with_reducible show Ends _ _ _ _ _ _)); first | walk1 | (dsimp only; walk1) | (dsimp only; k_unfold; (try dsimp only)))))
  k_with "my bytes" => (first | exact all48 (by assumption) | (refine all_cons (by decide) ?_; k_extra "my bytes") | (refine all_snoc (by decide) ?_; k_extra "my bytes"))
  k_with "my size" => (first | (first | lia | omega) | ((try simp only [List.length_map, List.length_cons, List.length_append, List.length_nil, List.length_set, List.length_reverse, lits_length, figs_length, stepKs_length]); (first | lia | omega)))
  k_with "mine call type:bytes" => ((k_here; (with_reducible show wpAny _ _ (call (Value.type "bytes") [Value.ref _]) _ _ _); k_dflt (refine' bytesOf_K ?Fq498 ?Nq498 ?mq498 ?iq498 ?rq498 ?zq498 ?hq498 ?_; (case Fq498 => k_asm); (case Nq498 => k_asm); (case mq498 => k_mem); (case iq498 => assumption); (case rq498 => k_extra "my bytes"); (case zq498 => k_extra "my size"); (case hq498 => exact rfl); k_whole); intro h' t' k' F' N'; (try k_sweep)))
  k_with "my bytes" => ((refine all_set (u8_in _) ?_; k_extra "my bytes"))
  k_with "my byte at" => ((refine fig_at (by assumption) ?_; k_extra "my size"))
  k_with "mine subscriptTail" => ((k_here; (with_reducible show wpAny _ _ (subscriptTail _ _ (Value.bytes _ _) (Value.int _ _)) _ _ _); k_dflt (refine' bytesItem_K ?aq501 ?bq501 ?_ ?hsq501 ?htq501; (case aq501 => k_extra "my byte at"); (case bq501 => decide); (case hsq501 => with_unfolding_all rfl); (case htq501 => intro _; with_unfolding_all rfl))))
  k_with "my index" => (first | (first | lia | omega) | decide | assumption)
  k_with "mine compareOp In" => ((k_here; (with_reducible show wpAny _ _ (compareOp CmpOp.In (Value.int _ _) (Value.bytes _ _)) _ _ _); k_dflt (refine' in_bytes ?aq503 ?bq503 ?_; (case aq503 => (first | lia | omega)); (case bq503 => (first | lia | omega)))))
  k_with "mine getMethod" => ((k_here; (with_reducible show wpAny _ _ (getMethod (Value.bytes _ _) "index" _) _ _ _); refine index_method ?_))
  k_with "mine call builtin:bytes.index" => ((k_here; (with_reducible show wpAny _ _ (call (Value.builtin "bytes.index") [Value.bytes _ _, Value.int _ _]) _ _ _); k_dflt (refine' bytes_index _ ?aq505 ?bq505 ?cq505 ?dq505 ?_; (case aq505 => (first | lia | omega)); (case bq505 => (first | lia | omega)); (case cq505 => decide); (case dq505 => assumption)); intro _ _; (try dsimp only)))
  k_with "mine subscriptTail" => ((k_here; (with_reducible show wpAny _ _ (subscriptTail _ _ (Value.bytes (byteArr _) _) (Value.int _ _)) _ _ _); k_dflt (refine' bytesInt_K ?aq506 ?bq506 ?rq506 ?zq506 ?_ ?hsq506 ?htq506; (case aq506 => (first | lia | omega)); (case bq506 => assumption); (case rq506 => first | assumption | k_extra "my bytes"); (case zq506 => k_extra "my size"); (case hsq506 => with_unfolding_all rfl); (case htq506 => intro _; with_unfolding_all rfl)); intro _ _; (try dsimp only)))
  k_with "my pick" => ((with_reducible first | exact kmk_upto (by l_ints) (by (first | lia | omega)) | exact kmk_from (by l_ints) (by (first | lia | omega)) | exact kmk_upto_neg (by l_ints) (by (first | lia | omega)) | exact kmk_from_neg (by l_ints) (by (first | lia | omega))))
  k_with "mine subscriptTail Name Slice ref ref" => ((k_here; (with_reducible show wpAny _ _ (subscriptTail _ (PySem.Expr.Slice _ _ none _) (Value.ref _) (Value.ref _)) _ _ _); k_dflt (refine' kmk_slice_ints ?Fq508 ?Nq508 ?lq508 ?pq508 ?qq508 ?iq508 ?mq508 ?cq508 ?_ ?sq508 ?tq508 ?zq508; (case Fq508 => k_asm); (case Nq508 => k_asm); (case lq508 => kmk_list); (case pq508 => kmk_part); (case qq508 => kmk_part); (case iq508 => l_ints); (case mq508 => k_extra "my pick"); (case cq508 => kmk_len); (case sq508 => with_unfolding_all rfl); (case tq508 => kmk_pure); (case zq508 => kmk_size)); intro D' ws' h' F' N' l1 hI' hC' hL'; (try k_lt l1); (try k_sweep)))
  k_with "my ints" => (first | l_ints | exact IntsAre.cons _ _ IntsAre.nil | exact IntsAre.cons _ _ (IntsAre.cons _ _ IntsAre.nil))
  k_with "mine binaryOp Add ref ref" => ((k_here; (with_reducible show wpAny _ _ (binaryOp _ (Value.ref _) (Value.ref _)) _ _ _); k_dflt (refine' kmk_add_ints ?Fq510 ?Nq510 ?aq510 ?bq510 ?iq510 ?jq510 ?_ ?zq510; (case Fq510 => k_asm); (case Nq510 => k_asm); (case aq510 => kmk_list); (case bq510 => kmk_list); (case iq510 => k_extra "my ints"); (case jq510 => k_extra "my ints"); (case zq510 => first | ((simp only [sizeLine_eq]); k_extra "my size") | kmk_sum)); intro D' ws' h' F' N' l1 hI'; (try k_lt l1); (try k_sweep)))
  k_with "mine call builtin:len" => ((k_here; (with_reducible show wpAny _ _ (call (Value.builtin "len") [Value.bytes (byteArr _) _]) _ _ _); k_dflt (refine' len_byteArr ?zq511 ?_; (case zq511 => k_extra "my size")); intro _ _; (try dsimp only)))
  k_with "mine call builtin:ord" => ((k_here; (with_reducible show wpAny _ _ (call (Value.builtin "ord") [Value.str _ _]) _ _ _); refine ord_of_char ?_; (try dsimp only)))
  k_with "my text slice" => (((with_reducible rename Fr _ _ _ _ => F'); (with_reducible rename News _ _ _ _ => N'); first | ((with_reducible show wpAny _ _ (subscriptTail _ (Expr.Slice none (some _) none _) _ _) _ _ _); (refine slice_strN_ns_len (hsz := ?hszq513) (s := ⟨_, _, _, _, _⟩) F' N' ?_); (case hszq513 => rw [sizeLine_eq]; (first | lia | omega))) | ((with_reducible show wpAny _ _ (subscriptTail _ (Expr.Slice (some _) none none _) _ _) _ _ _); (refine slice_strN_sn_len (hsz := ?hszq513) (s := ⟨_, _, _, _, _⟩) F' N' ?_); (case hszq513 => rw [sizeLine_eq]; (first | lia | omega)))))
  k_with "my units" => (((try simp only [units_in1, units_deeper, Around.mark_units]); (try dsimp only [ktrTop]); (first | lia | omega)))
  k_with "my tail" => ((first | assumption | (refine' And.right ?_; first | assumption | (refine' And.right ?_; first | assumption | (refine' And.right ?_; first | assumption | (refine' And.right ?_; first | assumption | (refine' And.right ?_; first | assumption | (refine' And.right ?_; first | assumption | (refine' And.right ?_; first | assumption | (refine' And.right ?_; first | assumption | (refine' And.right ?_; assumption)))))))))))
  k_with "my conj" => (first | k_extra "my tail" | (refine' And.left ?_; k_extra "my tail") | (refine' And.left ?_; refine' And.left ?_; k_extra "my tail") | (refine' And.right ?_; refine' And.left ?_; k_extra "my tail"))
  k_with "my ne" => ((refine neN ?_; (try dsimp only); first | (refine' Nat.ne_of_lt ?_; k_extra "my conj") | (refine' Nat.ne_of_gt ?_; k_extra "my conj") | k_extra "my conj" | (refine' Ne.symm ?_; k_extra "my conj") | (first | lia | omega)))
  k_with "my sides" => (((case k1 => k_asm); (case k2 => k_asm); (case k3 => k_asm); (case k4 => k_asm); (case k5 => k_asm); (case kK => first | assumption | exact rfl); (case ks => kcj_all); (case kd => first | ((try simp only [depth_mark, depth_under_make, depth_under_kw, depth_in1, depth_deeper]); (try dsimp only [ktrTop]); first | (refine' room3 ?hhq518 ?llq518; (case hhq518 => assumption); (case llq518 => exact Nat.le_of_ble_eq_true rfl)) | (first | lia | omega)) | (with_unfolding_all exact Nat.le_of_ble_eq_true rfl)); (case ku => first | ((try simp only [units_in1, units_deeper, Around.mark_units]); (try dsimp only [ktrTop]); first | (refine' room3 ?hhq518 ?llq518; (case hhq518 => assumption); (case llq518 => exact Nat.le_of_ble_eq_true rfl)) | (first | lia | omega)) | (with_unfolding_all exact Nat.le_of_ble_eq_true rfl))))
  trivial
section
theorem count_at_spec (w : World) (x : Str) (q c e : Int) (t1 t2 : Tok) (hx : x.length ≤ 20) (hc : CountFact x q c e) :
    Spec w (hd.heap_1 w.params) 335 [.str x t1, .int q t2] [] 1 (fun v new => ∃ D t' t'', v = .ref D ∧ new = [(D, { cls := .type "tuple", data := .seq #[.int c t', .int e t''] })]) := by
  rcases hc with ⟨rfl, rfl, h⟩ | ⟨h1, h2, h3, h4, h5, h6, h7, h8⟩
  · exact count_one_spec w x e t1 t2 hx h
  · have := count_fig_spec w x _ q c (e - 1) t1 t2 hx h1 h2 h3 rfl h4 (by (first | lia | omega)) h6 h7 h8
    rwa [show e - 1 + 1 = e by (first | lia | omega)] at this
/-- the signs of a text from a place on -/
def Scan (x : Str) : Int → List (Str × Int × Int) → Prop
  | p, [] => p = (x.length : Int)
  | p, (sn, c, pl) :: r => pl = p ∧ SignFact x p sn ∧ ∃ e, CountFact x (p + 1) c e ∧ (sn = Str.ofString "9" ∧ p + 1 < e ∨ sn ≠ Str.ofString "9" ∧ e = p + 1) ∧ Scan x e r
/-- a list of Signs -/
def SignsAre (l : List (Str × Int × Int)) (vs : List Value) (os : List (Addr × Obj)) : Prop :=
  vs.length = l.length ∧ ∀ (i : Nat) (sn : Str) (c pl : Int), l[i]? = some (sn, c, pl) → ∃ x dx es n, vs[i]? = some (Value.ref x) ∧ (x, instObj 319 dx) ∈ os ∧ (dx, dictOf es n) ∈ os ∧ SignIs es sn c pl ∧ getL "fault" es = some none
theorem SignsAre.nil {os : List (Addr × Obj)} : SignsAre [] [] os := ⟨rfl, fun _ _ _ _ h => nomatch h⟩
theorem SignsAre.snoc {l : List (Str × Int × Int)} {vs : List Value} {os os' : List (Addr × Obj)} {sn : Str} {c pl : Int} {x dx : Addr} {es : List DictEntry} {n : Nat} (h : SignsAre l vs os) (hs : ∀ p ∈ os, p ∈ os')
    (h1 : (x, instObj 319 dx) ∈ os') (h2 : (dx, dictOf es n) ∈ os') (h3 : SignIs es sn c pl) (h4 : getL "fault" es = some none) : SignsAre (l ++ [(sn, c, pl)]) (vs ++ [Value.ref x]) os' := by
  obtain ⟨hl, ha⟩ := h
  refine ⟨by rw [List.length_append, List.length_append, hl]; rfl, fun i sn' c' pl' hi => ?_⟩
  by_cases hlt : i < l.length
  · rw [List.getElem?_append_left hlt] at hi
    obtain ⟨x, dx, es, n, e1, e2, e3, e4⟩ := ha i sn' c' pl' hi
    exact ⟨x, dx, es, n, by rw [List.getElem?_append_left (by (first | lia | omega))]; exact e1, hs _ e2, hs _ e3, e4⟩
  · rw [List.getElem?_append_right (by (first | lia | omega))] at hi
    have hi0 : i - l.length = 0 := by
      cases h : i - l.length with
      | zero => rfl
      | succ k => rw [h] at hi; cases hi
    rw [hi0] at hi
    cases hi
    exact ⟨x, dx, es, n, by rw [List.getElem?_append_right (by (first | lia | omega)), hl, hi0]; rfl, h1, h2, h3, h4⟩
theorem known3 {m : Str → Option Value} {a b c : Str} {u v w : Option Value} (h1 : m a = u) (h2 : m b = v) (h3 : m c = w) : m = fun y => if y = a then u else if y = b then v else if y = c then w else m y := by
  funext y
  by_cases e1 : y = a
  · rw [if_pos e1, e1, h1]
  · rw [if_neg e1]
    by_cases e2 : y = b
    · rw [if_pos e2, e2, h2]
    · rw [if_neg e2]
      by_cases e3 : y = c
      · rw [if_pos e3, e3, h3]
      · rw [if_neg e3]
/-- a goal that the walk leaves to me -/
theorem SignsAre.mono {l : List (Str × Int × Int)} {vs : List Value} {os os' : List (Addr × Obj)} (h : SignsAre l vs os) (hs : ∀ p ∈ os, p ∈ os') : SignsAre l vs os' :=
  ⟨h.1, fun i sn c pl e => let ⟨x, dx, es, n, a, b, c, d⟩ := h.2 i sn c pl e; ⟨x, dx, es, n, a, hs _ b, hs _ c, d⟩⟩
theorem signs_step {g h' : Heap} {L' D x' dx' : Addr} {all os : List (Addr × Obj)} {done : List (Str × Int × Int)} {vs : List Value} {k' n' : Nat} {es' : List DictEntry} {sn : Str} {c pl : Int} (N : News g L' h' all) (hS : SignsAre done vs os) (ho : OwnOff os [D]) (hSI : SignIs es' sn c pl) (hfa : getL "fault" es' = some none)
    (h1 : ¬ (@Eq Nat x' D)) (h2 : ¬ (@Eq Nat dx' D)) (m1 : (x', instObj 319 dx') ∈ all) (m2 : (dx', dictOf es' n') ∈ all) (m3 : (D, W.listOf (vs.toArray.push (Value.ref x')) k') ∈ all) (m4 : ∀ p ∈ os, p ∈ all) :
    ∃ os', News g L' h' ((D, W.listOf (vs ++ [Value.ref x']).toArray k') :: os') ∧ SignsAre (done ++ [(sn, c, pl)]) (vs ++ [Value.ref x']) os' ∧ OwnOff os' [D] := by
  refine ⟨(x', instObj 319 dx') :: (dx', dictOf es' n') :: os, fun p hp => N p ?_, hS.snoc (fun p hp => List.mem_cons_of_mem _ (List.mem_cons_of_mem _ hp)) (List.Mem.head _) (List.Mem.tail _ (List.Mem.head _)) hSI hfa, fun p hp b hb => ?_⟩
  · rcases List.mem_cons.mp hp with rfl | hp
    · have e : (vs ++ [Value.ref x']).toArray = vs.toArray.push (Value.ref x') := by simp
      rw [e]; exact m3
    · rcases List.mem_cons.mp hp with rfl | hp
      · exact m1
      · rcases List.mem_cons.mp hp with rfl | hp
        · exact m2
        · exact m4 _ hp
  · rw [List.mem_singleton.mp hb]
    rcases List.mem_cons.mp hp with rfl | hp
    · exact h1
    · rcases List.mem_cons.mp hp with rfl | hp
      · exact h2
      · exact ho p hp D (List.mem_singleton.mpr rfl)
end
theorem wd44 : True := by
  k_with "mine call ref" => ((k_here; (with_reducible show wpAny _ _ (call (Value.ref 330) _) _ _ _); k_dflt (refine' Spec.use0 (sign_at_spec _ _ _ _ _ _ ?c0q519 ?c1q519) ?k1 ?k2 ?k3 ?k4 ?k5 ?kK ?ks ?kd ?ku ?_; (case c0q519 => assumption); (case c1q519 => assumption); k_extra "my sides"; intro t' h' tk' F' N'; (try k_sweep); (try dsimp only))))
  k_with "mine call ref" => ((k_here; (with_reducible show wpAny _ _ (call (Value.ref 335) _) _ _ _); k_dflt (refine' Spec.use2 (count_at_spec _ _ _ _ _ _ _ ?c0q520 ?c1q520) ?k1 ?k2 ?k3 ?k4 ?k5 ?kK ?ks ?kd ?ku ?_; (case c0q520 => assumption); (case c1q520 => assumption); k_extra "my sides"; intro D' t' t2' h' tk' F' N' hne'; (try dsimp only [OffN, OffP] at hne'); (try k_sweep); (try dsimp only))))
  k_with "mine call ref" => ((k_here; (with_reducible show wpAny _ _ (call (Value.ref 319) _) _ _ _); k_dflt (refine' Spec.use8 (sign_new _ _ _ _ _ _ _) ?k1 ?k2 ?k3 ?k4 ?k5 ?kK ?ks ?kd ?ku ?_; k_extra "my sides"; intro x' dx' es' n' h' tk' F' N' hne' hS' hP' hX'; (try dsimp only [OffN, OffP] at hne'); (try k_sweep); (try dsimp only))))
  trivial
section
theorem wd45 : True := by
  k_with "mine exec While Compare" => ((k_here; refine Held.mk ?_))
  k_with "mine exec While" => ((k_here; refine Held.mk ?_))
  k_with "mine isTrue BoolOp" => ((k_here; (rename CutMark => hHM); refine Held.mk ?_))
  trivial
/-- the loop's word -/
inductive SignsJ (x : Str) (t1 : Tok) (l : List (Str × Int × Int)) (D : Addr) (n : Nat) (m : Str → Option Value) (nx : List (Addr × Obj)) : Prop
  | mk (done rest : List (Str × Int × Int)) (p : Int) (t : Tok) (u : Str → Option Value) (vs : List Value) (k : Nat) (os : List (Addr × Obj)) : (l = done ++ rest) → (n = rest.length) → (Scan x p rest) → (m = (fun y => if y = Str.ofString "found" then some (.ref D) else if y = Str.ofString "at" then some (.int p t) else if y = Str.ofString "text" then some (.str x t1) else u y)) → (nx = (D, W.listOf vs.toArray k) :: os) → (SignsAre done vs os) → (OwnOff os [D]) →
    SignsJ x t1 l D n m nx
theorem signs_of_spec (w : World) (x : Str) (l : List (Str × Int × Int)) (t1 : Tok) (hx : x.length ≤ 20) (hs9 : Scan x 0 l) (hl9 : l.length ≤ 4) :
    Spec w (hd.heap_1 w.params) 342 [.str x t1] [] 4 (fun v new => ∃ D vs n os, v = .ref D ∧ new = (D, W.listOf vs.toArray n) :: os ∧ SignsAre l vs os ∧ OwnOff os [D]) := by
  unfold Spec
  intro dp un gd cn cs a ccd cl outer A₀ base h₀ L m mg mb mean news s Q E B F X N T hk hs hroom hun ret
  refine enterC (binds := [(Str.ofString "text", .str x t1)]) B F X N T rfl rfl hk hs (by k_is) (by k_is) (show dp < recursionLimit from Nat.lt_of_le_of_lt (Nat.le_add_right _ _) hroom) (BindsTo.of_eq rfl) (locs rfl) ret ?_ rfl rfl rfl (by decide)
  clear B F X N T ret hs
  intro g L' h₁ gs5 dr5 tk os5 F' N' B' X' T' l1
  (try dsimp only)
  show wpAny _ _ _ _ _ _
  k_fold
  k_extra "my steps"
  unfold Held
  rename Fr _ _ _ _ => hF
  rename News _ _ _ _ => hN
  obtain ⟨D, rfl⟩ := name2 hN
  refine While_inv (SignsJ x t1 l D)
    (n₀ := l.length) hF (fun p hp => hN p (List.mem_cons_of_mem _ hp)) ⟨[], l, 0, _, _, [], 0, [], rfl, rfl, hs9, known3 rfl rfl rfl, rfl, SignsAre.nil, fun _ h => nomatch h⟩ ?_
  clear hF hN
  rintro n m nx h9 tk9 F₁ N₁ ⟨done, rest, p, t, u, vs, k, os, hl, hn, hsc, rfl, rfl, hS, ho⟩
  have hlen : done.length + rest.length ≤ 4 := by rw [← List.length_append, ← hl]; exact hl9
  have hvl : vs.length ≤ 20 := by have := hS.1; (first | lia | omega)
  rcases rest with _ | ⟨⟨sn, c, pl⟩, rest⟩
  · have hsc' : p = (x.length : Int) := hsc
    show wpAny _ _ _ _ _ _
    k_fold
    k_extra "my steps"
    show Ends _ _ _ _ _ _
    refine Ends.intro ((D, W.listOf vs.toArray k) :: os) (by k_asm) (by k_asm) (fun _ h => nomatch h) (fun p hp => hp) (fun _ h => nomatch h) ⟨D, vs, k, os, rfl, rfl, by rw [hl, List.append_nil]; exact hS, ho⟩
  · obtain ⟨rfl, hsf, e, hcf, he, hsc⟩ := hsc
    have hp0 := hsf.1
    have hp1 := hsf.2.1
    have hsl : sn.length = 1 := by
      rcases hsf.2.2.2 with ⟨rfl, _⟩ | ⟨rfl, _⟩ | ⟨rfl, _⟩ <;> rfl
    have hlt : rest.length < n := by rw [hn]; exact Nat.lt_succ_self _
    have hl' : l = (done ++ [(sn, c, pl)]) ++ rest := by rw [hl, List.append_assoc]; rfl
    have hcf' : CountFact x (pl + (sn.length : Int)) c e := by rw [hsl]; exact hcf
    show wpAny _ _ _ _ _ _
    k_fold
    have hMk := kstMark
    have hHM : CutMark := CutMark.mk
    k_extra "my steps"
    unfold Held
    clear hHM
    rename Fr _ _ _ _ => hF
    rename News _ _ _ _ => hN
    refine cut_true false hF hN ?_ ?_
    · obtain ⟨rfl, he⟩ | ⟨hn9, he⟩ := he
      all_goals (
        k_extra "my steps"
        exact CutB.intro (by k_asm) (by k_asm) (by kcj_all) (by first | rfl | assumption))
    intro h6 k6 F6 N6
    clear hF hN
    show wpAny _ _ _ _ _ _
    (try k_fold)
    k_extra "my steps"
    rename SignIs _ _ _ _ => hSI
    rename (getL (Str.ofString "fault") _ = some none) => hfa
    rename News _ _ _ _ => hN
    rename Fr _ _ _ _ => hF
    rename ((_ ∧ _) ∧ (_ ∧ _) ∧ _) => hne
    obtain ⟨-, ⟨n1, n2⟩, -⟩ := hne
    obtain ⟨os', hN', hS', ho'⟩ := signs_step hN hS ho hSI hfa n1 n2 (by k_mem) (by k_mem) (by k_mem) (by kcj_all)
    exact WhileStep.intro hF hN' hlt ⟨_, rest, e, _, _, _, _, _, hl', rfl, hsc, known3 rfl rfl rfl, rfl, hS', ho'⟩
end
theorem wd46 : True := by
  k_with_none
  k_with "my fold" => (((first | (with_reducible show wpAny _ _ (exec (PySem.Stmt.Assign _ _ _) _) _ _ _) | (with_reducible show wpAny _ _ (exec (PySem.Stmt.Return _ _) _) _ _ _) | (with_reducible show wpAny _ _ (exec (PySem.Stmt.If _ _ _ _) _) _ _ _) | (with_reducible show wpAny _ _ (exec (PySem.Stmt.Expr _ _) _) _ _ _) | (with_reducible show wpAny _ _ (exec (PySem.Stmt.AugAssign _ _ _ _) _) _ _ _) | (with_reducible show wpAny _ _ (eval (PySem.Expr.BinOp _ _ _ _) _) _ _ _) | (with_reducible show wpAny _ _ (eval (PySem.Expr.Call _ _ _ _) _) _ _ _)); (fail_if_success (fail_if_success k_fold)); refine (let qk := _; keepQ qk ?_)))
  k_with "my get" => (assumption)
  k_with "mine call type:range" => ((k_here; (rename Fr _ _ _ _ => F'); (rename News _ _ _ _ => N'); (with_unfolding_all refine range1_rows F' N' ?_; intro _ _ _ _ _ _ _ _ _)))
  k_with "my steps" => (repeat' (first | ((fail_if_success (fail_if_success k_unfold)); (try dsimp only); refine (?_ : wpAny _ _ _ _ _ _)) | (k_unfold; (try dsimp only)) | k_extra "my fold" | ((fail_if_success (with_reducible show wpAny _ _ (pyIter _) (fun it s₂ => LoopAtV _ _ _ _ _ _ _ _ _ it s₂) _ _)); (fail_if_success (with_reducible show wpAny _ _ (pyIter _) (fun it s₂ => PairAt3 _ _ _ _ _ _ _ _ _ _ it s₂) _ _)); (fail_if_success (with_reducible show LoopStep3 _ _ _ _ _ _ _ _ _ _)); (fail_if_success (with_reducible show InvEndN _ _ _ _ _ _ _)); (fail_if_success (with_reducible show Ends _ _ _ _ _ _)); first | walk1 | (dsimp only; walk1) | (dsimp only; k_unfold; (try dsimp only)))))
  k_with "my plain steps" => (repeat' (first | ((fail_if_success (fail_if_success k_unfold)); (try dsimp only); refine (?_ : wpAny _ _ _ _ _ _)) | (k_unfold; (try dsimp only)) | ((fail_if_success (with_reducible show wpAny _ _ (pyIter _) (fun it s₂ => LoopAtV _ _ _ _ _ _ _ _ _ it s₂) _ _)); (fail_if_success (with_reducible show wpAny _ _ (pyIter _) (fun it s₂ => PairAt3 _ _ _ _ _ _ _ _ _ _ it s₂) _ _)); (fail_if_success (with_reducible show LoopStep3 _ _ _ _ _ _ _ _ _ _)); (fail_if_success (with_reducible show InvEndN _ _ _ _ _ _ _)); (fail_if_success (with_reducible show Ends _ _ _ _ _ _)); first | walk1 | (dsimp only; walk1) | (dsimp only; k_unfold; (try dsimp only)))))
  k_with "my bytes" => (first | exact all48 (by assumption) | (refine all_cons (by decide) ?_; k_extra "my bytes") | (refine all_snoc (by decide) ?_; k_extra "my bytes"))
  k_with "my size" => (first | (first | lia | omega) | ((try simp only [List.length_map, List.length_cons, List.length_append, List.length_nil, List.length_set, List.length_reverse, lits_length, figs_length, stepKs_length]); (first | lia | omega)))
  k_with "mine call type:bytes" => ((k_here; (with_reducible show wpAny _ _ (call (Value.type "bytes") [Value.ref _]) _ _ _); k_dflt (refine' bytesOf_K ?Fq532 ?Nq532 ?mq532 ?iq532 ?rq532 ?zq532 ?hq532 ?_; (case Fq532 => k_asm); (case Nq532 => k_asm); (case mq532 => k_mem); (case iq532 => assumption); (case rq532 => k_extra "my bytes"); (case zq532 => k_extra "my size"); (case hq532 => exact rfl); k_whole); intro h' t' k' F' N'; (try k_sweep)))
  k_with "my bytes" => ((refine all_set (u8_in _) ?_; k_extra "my bytes"))
  k_with "my byte at" => ((refine fig_at (by assumption) ?_; k_extra "my size"))
  k_with "mine subscriptTail" => ((k_here; (with_reducible show wpAny _ _ (subscriptTail _ _ (Value.bytes _ _) (Value.int _ _)) _ _ _); k_dflt (refine' bytesItem_K ?aq535 ?bq535 ?_ ?hsq535 ?htq535; (case aq535 => k_extra "my byte at"); (case bq535 => decide); (case hsq535 => with_unfolding_all rfl); (case htq535 => intro _; with_unfolding_all rfl))))
  k_with "my index" => (first | (first | lia | omega) | decide | assumption)
  k_with "mine compareOp In" => ((k_here; (with_reducible show wpAny _ _ (compareOp CmpOp.In (Value.int _ _) (Value.bytes _ _)) _ _ _); k_dflt (refine' in_bytes ?aq537 ?bq537 ?_; (case aq537 => (first | lia | omega)); (case bq537 => (first | lia | omega)))))
  k_with "mine getMethod" => ((k_here; (with_reducible show wpAny _ _ (getMethod (Value.bytes _ _) "index" _) _ _ _); refine index_method ?_))
  k_with "mine call builtin:bytes.index" => ((k_here; (with_reducible show wpAny _ _ (call (Value.builtin "bytes.index") [Value.bytes _ _, Value.int _ _]) _ _ _); k_dflt (refine' bytes_index _ ?aq539 ?bq539 ?cq539 ?dq539 ?_; (case aq539 => (first | lia | omega)); (case bq539 => (first | lia | omega)); (case cq539 => decide); (case dq539 => assumption)); intro _ _; (try dsimp only)))
  k_with "mine subscriptTail" => ((k_here; (with_reducible show wpAny _ _ (subscriptTail _ _ (Value.bytes (byteArr _) _) (Value.int _ _)) _ _ _); k_dflt (refine' bytesInt_K ?aq540 ?bq540 ?rq540 ?zq540 ?_ ?hsq540 ?htq540; (case aq540 => (first | lia | omega)); (case bq540 => assumption); (case rq540 => first | assumption | k_extra "my bytes"); (case zq540 => k_extra "my size"); (case hsq540 => with_unfolding_all rfl); (case htq540 => intro _; with_unfolding_all rfl)); intro _ _; (try dsimp only)))
  k_with "my pick" => ((with_reducible first | exact kmk_upto (by l_ints) (by (first | lia | omega)) | exact kmk_from (by l_ints) (by (first | lia | omega)) | exact kmk_upto_neg (by l_ints) (by (first | lia | omega)) | exact kmk_from_neg (by l_ints) (by (first | lia | omega))))
  k_with "mine subscriptTail Name Slice ref ref" => ((k_here; (with_reducible show wpAny _ _ (subscriptTail _ (PySem.Expr.Slice _ _ none _) (Value.ref _) (Value.ref _)) _ _ _); k_dflt (refine' kmk_slice_ints ?Fq542 ?Nq542 ?lq542 ?pq542 ?qq542 ?iq542 ?mq542 ?cq542 ?_ ?sq542 ?tq542 ?zq542; (case Fq542 => k_asm); (case Nq542 => k_asm); (case lq542 => kmk_list); (case pq542 => kmk_part); (case qq542 => kmk_part); (case iq542 => l_ints); (case mq542 => k_extra "my pick"); (case cq542 => kmk_len); (case sq542 => with_unfolding_all rfl); (case tq542 => kmk_pure); (case zq542 => kmk_size)); intro D' ws' h' F' N' l1 hI' hC' hL'; (try k_lt l1); (try k_sweep)))
  k_with "my ints" => (first | l_ints | exact IntsAre.cons _ _ IntsAre.nil | exact IntsAre.cons _ _ (IntsAre.cons _ _ IntsAre.nil))
  k_with "mine binaryOp Add ref ref" => ((k_here; (with_reducible show wpAny _ _ (binaryOp _ (Value.ref _) (Value.ref _)) _ _ _); k_dflt (refine' kmk_add_ints ?Fq544 ?Nq544 ?aq544 ?bq544 ?iq544 ?jq544 ?_ ?zq544; (case Fq544 => k_asm); (case Nq544 => k_asm); (case aq544 => kmk_list); (case bq544 => kmk_list); (case iq544 => k_extra "my ints"); (case jq544 => k_extra "my ints"); (case zq544 => first | ((simp only [sizeLine_eq]); k_extra "my size") | kmk_sum)); intro D' ws' h' F' N' l1 hI'; (try k_lt l1); (try k_sweep)))
  k_with "mine call builtin:len" => ((k_here; (with_reducible show wpAny _ _ (call (Value.builtin "len") [Value.bytes (byteArr _) _]) _ _ _); k_dflt (refine' len_byteArr ?zq545 ?_; (case zq545 => k_extra "my size")); intro _ _; (try dsimp only)))
  k_with "mine call builtin:ord" => ((k_here; (with_reducible show wpAny _ _ (call (Value.builtin "ord") [Value.str _ _]) _ _ _); refine ord_of_char ?_; (try dsimp only)))
  k_with "my text slice" => (((with_reducible rename Fr _ _ _ _ => F'); (with_reducible rename News _ _ _ _ => N'); first | ((with_reducible show wpAny _ _ (subscriptTail _ (Expr.Slice none (some _) none _) _ _) _ _ _); (refine slice_strN_ns_len (hsz := ?hszq547) (s := ⟨_, _, _, _, _⟩) F' N' ?_); (case hszq547 => rw [sizeLine_eq]; (first | lia | omega))) | ((with_reducible show wpAny _ _ (subscriptTail _ (Expr.Slice (some _) none none _) _ _) _ _ _); (refine slice_strN_sn_len (hsz := ?hszq547) (s := ⟨_, _, _, _, _⟩) F' N' ?_); (case hszq547 => rw [sizeLine_eq]; (first | lia | omega)))))
  k_with "my units" => (((try simp only [units_in1, units_deeper, Around.mark_units]); (try dsimp only [ktrTop]); (first | lia | omega)))
  k_with "my tail" => ((first | assumption | (refine' And.right ?_; first | assumption | (refine' And.right ?_; first | assumption | (refine' And.right ?_; first | assumption | (refine' And.right ?_; first | assumption | (refine' And.right ?_; first | assumption | (refine' And.right ?_; first | assumption | (refine' And.right ?_; first | assumption | (refine' And.right ?_; first | assumption | (refine' And.right ?_; assumption)))))))))))
  k_with "my conj" => (first | k_extra "my tail" | (refine' And.left ?_; k_extra "my tail") | (refine' And.left ?_; refine' And.left ?_; k_extra "my tail") | (refine' And.right ?_; refine' And.left ?_; k_extra "my tail"))
  k_with "my ne" => ((refine neN ?_; (try dsimp only); first | (refine' Nat.ne_of_lt ?_; k_extra "my conj") | (refine' Nat.ne_of_gt ?_; k_extra "my conj") | k_extra "my conj" | (refine' Ne.symm ?_; k_extra "my conj") | (first | lia | omega)))
  k_with "my sides" => (((case k1 => k_asm); (case k2 => k_asm); (case k3 => k_asm); (case k4 => k_asm); (case k5 => k_asm); (case kK => first | assumption | exact rfl); (case ks => kcj_all); (case kd => first | ((try simp only [depth_mark, depth_under_make, depth_under_kw, depth_in1, depth_deeper]); (try dsimp only [ktrTop]); first | (refine' room3 ?hhq552 ?llq552; (case hhq552 => assumption); (case llq552 => exact Nat.le_of_ble_eq_true rfl)) | (first | lia | omega)) | (with_unfolding_all exact Nat.le_of_ble_eq_true rfl)); (case ku => first | ((try simp only [units_in1, units_deeper, Around.mark_units]); (try dsimp only [ktrTop]); first | (refine' room3 ?hhq552 ?llq552; (case hhq552 => assumption); (case llq552 => exact Nat.le_of_ble_eq_true rfl)) | (first | lia | omega)) | (with_unfolding_all exact Nat.le_of_ble_eq_true rfl))))
  trivial
section
section
variable {prog : Program} {w : World} {A : Around} {E : Value → Shared → Prop} {s : Shared} {value slice : PySem.Expr} {h₀ : Heap} {L D : Addr} {news : List (Addr × Obj)} {Q : Value → Shared → Prop}
theorem last_item {ys : List Value} {v : Value} {k : Nat} {u : Tok} (N : News h₀ L s.heap news) (ha : (D, W.listOf (ys ++ [v]).toArray k) ∈ news) (h : Q v s)
    (hs : subscripted slice false (.ref D) (.int (-1) u) = operate [.ref D, .int (-1) u] (getItem (.ref D) (.int (-1) u))) : wpAny (model prog w) A (subscriptTail value slice (.ref D) (.int (-1) u)) Q E s := by
  refine kde_neg (vs := ys ++ [v]) (j := ys.length) (v := v) ⟨_, (N _ ha).1, rfl, _, rfl⟩ (by decide) (by decide) ?_ (by simp) h hs
  unfold seqIndex?
  rw [List.length_append, List.length_singleton]
  simp
  (first | lia | omega)
theorem str_other {x y : Str} {t u : Tok} (hn : x ≠ y) (h : Q (.bool false) s) : wpAny (model prog w) A (compareOp .Eq (.str x t) (.str y u)) Q E s := by
  refine eq_str ?_
  rw [beq_eq_false_iff_ne.mpr hn]; exact h
end
/-- a list of pairs (sign, count) -/
def TupsAre (l : List (Str × Int × Int)) (ts : List Value) (os : List (Addr × Obj)) : Prop :=
  ts.length = l.length ∧ ∀ (i : Nat) (sn : Str) (c pl : Int), l[i]? = some (sn, c, pl) → ∃ T t1 t2, ts[i]? = some (Value.ref T) ∧ (T, ({ cls := .type "tuple", data := .seq #[.str sn t1, .int c t2] } : Obj)) ∈ os
theorem TupsAre.mono {l : List (Str × Int × Int)} {ts : List Value} {os os' : List (Addr × Obj)} (h : TupsAre l ts os) (hs : ∀ p ∈ os, p ∈ os') : TupsAre l ts os' :=
  ⟨h.1, fun i sn c pl e => let ⟨T, t1, t2, a, b⟩ := h.2 i sn c pl e; ⟨T, t1, t2, a, hs _ b⟩⟩
theorem TupsAre.snoc {l : List (Str × Int × Int)} {ts : List Value} {os os' : List (Addr × Obj)} {sn : Str} {c pl : Int} {T : Addr} {t1 t2 : Tok} (h : TupsAre l ts os) (hs : ∀ p ∈ os, p ∈ os')
    (h1 : (T, ({ cls := .type "tuple", data := .seq #[.str sn t1, .int c t2] } : Obj)) ∈ os') : TupsAre (l ++ [(sn, c, pl)]) (ts ++ [Value.ref T]) os' := by
  obtain ⟨hl, ha⟩ := h
  refine ⟨by rw [List.length_append, List.length_append, hl]; rfl, fun i sn' c' pl' hi => ?_⟩
  by_cases hlt : i < l.length
  · rw [List.getElem?_append_left hlt] at hi
    obtain ⟨T, t1, t2, e1, e2⟩ := ha i sn' c' pl' hi
    exact ⟨T, t1, t2, by rw [List.getElem?_append_left (by (first | lia | omega))]; exact e1, hs _ e2⟩
  · rw [List.getElem?_append_right (by (first | lia | omega))] at hi
    have hi0 : i - l.length = 0 := by
      cases h : i - l.length with
      | zero => rfl
      | succ k => rw [h] at hi; cases hi
    rw [hi0] at hi
    cases hi
    exact ⟨T, t1, t2, by rw [List.getElem?_append_right (by (first | lia | omega)), hl, hi0]; rfl, h1⟩
/-- no sign stands twice in a row -/
def Apart : List (Str × Int × Int) → Prop
  | [] => True
  | [_] => True
  | a :: b :: r => a.1 ≠ b.1 ∧ Apart (b :: r)
theorem Apart.at : ∀ {l : List (Str × Int × Int)} {i : Nat} {a b : Str × Int × Int}, Apart l → l[i]? = some a → l[i + 1]? = some b → a.1 ≠ b.1
  | [_], 0, _, _, _, _, h => nomatch h
  | _ :: _ :: _, 0, _, _, h, e1, e2 => by cases e1; cases e2; exact h.1
  | _ :: c :: r, i + 1, _, _, h, e1, e2 => Apart.at (l := c :: r) (i := i) h.2 e1 e2
theorem known2 {m : Str → Option Value} {a b : Str} {u v : Option Value} (h1 : m a = u) (h2 : m b = v) : m = fun y => if y = a then u else if y = b then v else m y := by
  funext y
  by_cases e1 : y = a
  · rw [if_pos e1, e1, h1]
  · rw [if_neg e1]
    by_cases e2 : y = b
    · rw [if_pos e2, e2, h2]
    · rw [if_neg e2]
inductive SymJ (l : List (Str × Int × Int)) (S D : Addr) (vs : List Value) (nS : Nat) (os : List (Addr × Obj)) (i : Nat) (m : Str → Option Value) (nx : List (Addr × Obj)) : Prop
  | mk (ts : List Value) (k : Nat) (tos : List (Addr × Obj)) (u : Str → Option Value) : (m = (fun y => if y = Str.ofString "found" then some (.ref D) else if y = Str.ofString "signs" then some (.ref S) else u y)) → (nx = (S, W.listOf vs.toArray nS) :: (D, W.listOf ts.toArray k) :: (tos ++ os)) → (TupsAre (l.take i) ts tos) → (OwnOff tos [D]) → (OwnOff tos (S :: os.map (·.1))) →
    SymJ l S D vs nS os i m nx
end
section
theorem wd47 : True := by
  k_with "mine subscriptTail Name UnaryOp ref int" => ((k_here; (with_reducible show wpAny _ _ (subscriptTail _ _ (Value.ref _) (Value.int _ _)) _ _ _); k_dflt (refine' last_item ?Nq553 ?aq553 ?_ ?sq553; (case Nq553 => k_asm); (case aq553 => k_mem); (case sq553 => with_unfolding_all rfl))))
  k_with "mine compareOp Eq str str" => ((k_here; k_dflt (refine' str_other ?aq554 ?_; (case aq554 => assumption))))
  k_with "mine compareOp NotEq ref ref" => ((k_here; (with_reducible show wpAny _ _ (compareOp CmpOp.NotEq (Value.ref _) (Value.ref _)) _ _ _); first | k_dflt (refine' ne_nil_nil ?Nq555 ?aq555 ?bq555 ?uq555 ?_; (case Nq555 => k_asm); (case aq555 => k_mem); (case bq555 => k_mem); (case uq555 => k_extra "my units")) | k_dflt (refine' ne_some_nil ?Nq555 ?aq555 ?bq555 ?vq555 ?uq555 ?_; (case Nq555 => k_asm); (case aq555 => k_mem); (case bq555 => k_mem); (case vq555 => simp); (case uq555 => k_extra "my units"))))
  trivial
theorem TupsAre.none {l : List (Str × Int × Int)} {os : List (Addr × Obj)} : TupsAre (l.take 0) [] os := ⟨rfl, fun i _ _ _ h => by rw [List.take_zero] at h; cases h⟩
theorem OwnOff.none {a : List Addr} : OwnOff [] a := fun _ h => nomatch h
theorem sym_step {g h' : Heap} {L' S D T : Addr} {all rest own tos os : List (Addr × Obj)} {l : List (Str × Int × Int)} {vs ts : List Value} {nS k : Nat} {i : Nat} {sn : Str} {c pl : Int} {t1 t2 : Tok} {m' : Str → Option Value} {h5 : Heap} {g5 : Array GenState} {d5 : Drawn} {t5 : Nat} {o5 : OsState} {tk : Nat}
    (F : Fr g L' h' m') (N : News g L' h' all) (hr : rest = (S, W.listOf vs.toArray nS) :: (tos ++ (os ++ own))) (hT : TupsAre (l.take i) ts tos) (ho1 : OwnOff tos [D]) (ho2 : OwnOff tos (S :: os.map (·.1))) (hli : l[i]? = some (sn, c, pl))
    (m1 : (T, ({ cls := .type "tuple", data := .seq #[.str sn t1, .int c t2] } : Obj)) ∈ all) (m2 : (D, W.listOf (ts.toArray.push (Value.ref T)) k) ∈ all) (m3 : ∀ p ∈ rest, p ∈ all) (hTD : @Ne Nat T D) (hTr : ∀ p ∈ rest, @Ne Nat T p.1)
    (hoff : OwnOff own (((S, W.listOf vs.toArray nS) :: (D, W.listOf ts.toArray 0) :: (tos ++ os)).map (·.1)))
    (e1 : m' (Str.ofString "found") = some (.ref D)) (e2 : m' (Str.ofString "signs") = some (.ref S)) :
    InvEndG g L' (fun m' nx => (S, W.listOf vs.toArray nS) ∈ nx ∧ SymJ l S D vs nS os (i + 1) m' nx) own ⟨h5, g5, d5, t5, o5⟩ ⟨h', g5, d5, tk, o5⟩ := by
  have e : (ts ++ [Value.ref T]).toArray = ts.toArray.push (Value.ref T) := by simp
  have et : l.take (i + 1) = l.take i ++ [(sn, c, pl)] := by simp [List.take_add_one, hli]
  refine InvEndG.intro (nx := (S, W.listOf vs.toArray nS) :: (D, W.listOf (ts ++ [Value.ref T]).toArray k) :: (((T, ({ cls := .type "tuple", data := .seq #[.str sn t1, .int c t2] } : Obj)) :: tos) ++ os)) F N
    ⟨List.Mem.head _, _, _, _, _, known2 e1 e2, rfl, by rw [et]; exact hT.snoc (fun p hp => List.mem_cons_of_mem _ hp) (List.Mem.head _), ?_, ?_⟩ ?_ ?_ ?_
  · intro p hp b hb
    rw [List.mem_singleton.mp hb]
    rcases List.mem_cons.mp hp with rfl | hp
    · exact hTD
    · exact ho1 p hp D (List.mem_singleton.mpr rfl)
  · intro p hp b hb
    rcases List.mem_cons.mp hp with rfl | hp
    · subst hr
      rcases List.mem_cons.mp hb with rfl | hb
      · exact hTr _ (List.Mem.head _)
      · obtain ⟨q, hq, rfl⟩ := List.mem_map.mp hb
        exact hTr q (List.mem_cons_of_mem _ (List.mem_append.mpr (.inr (List.mem_append.mpr (.inl hq)))))
    · exact ho2 p hp b hb
  · intro p hp b hb
    obtain ⟨q, hq, rfl⟩ := List.mem_map.mp hb
    rcases List.mem_cons.mp hq with rfl | hq
    · exact hoff p hp _ (List.Mem.head _)
    · rcases List.mem_cons.mp hq with rfl | hq
      · exact hoff p hp _ (List.Mem.tail _ (List.Mem.head _))
      · rcases List.mem_cons.mp hq with rfl | hq
        · subst hr
          exact (hTr p (List.mem_cons_of_mem _ (List.mem_append.mpr (.inr (List.mem_append.mpr (.inr hp)))))).symm
        · exact hoff p hp _ (List.mem_cons_of_mem _ (List.mem_cons_of_mem _ (List.mem_map.mpr ⟨q, hq, rfl⟩)))
  · intro p hp
    rcases List.mem_cons.mp hp with rfl | hp
    · exact m3 _ (hr ▸ List.Mem.head _)
    · rcases List.mem_cons.mp hp with rfl | hp
      · rw [e]; exact m2
      · rcases List.mem_cons.mp hp with rfl | hp
        · exact m1
        · refine m3 _ (hr ▸ List.mem_cons_of_mem _ ?_)
          rcases List.mem_append.mp hp with hp | hp
          · exact List.mem_append.mpr (.inl hp)
          · exact List.mem_append.mpr (.inr (List.mem_append.mpr (.inl hp)))
  · intro p hp
    exact m3 _ (hr ▸ List.mem_cons_of_mem _ (List.mem_append.mpr (.inr (List.mem_append.mpr (.inr hp)))))
theorem symbols_of_spec (w : World) (S : Addr) (l : List (Str × Int × Int)) (vs : List Value) (nS : Nat) (os : List (Addr × Obj)) (hS : SignsAre l vs os) (hA : Apart l) (hl9 : l.length ≤ 4) :
    Spec w (hd.heap_1 w.params) 349 [.ref S] ((S, W.listOf vs.toArray nS) :: os) 1 (fun v new => ∃ D ts n tos, v = .ref D ∧ new = (D, W.listOf ts.toArray n) :: tos ∧ TupsAre l ts tos ∧ OwnOff tos [D]) := by
  unfold Spec
  intro dp un gd cn cs a ccd cl outer A₀ base h₀ L m mg mb mean news s Q E B F X N T hk hs hroom hun ret
  refine enterC (binds := [(Str.ofString "signs", .ref S)]) B F X N T rfl rfl hk hs (by k_is) (by k_is) (show dp < recursionLimit from Nat.lt_of_le_of_lt (Nat.le_add_right _ _) hroom) (BindsTo.of_eq rfl) (locs rfl) ret ?_ rfl rfl rfl (by decide)
  clear B F X N T ret hs
  intro g L' h₁ gs5 dr5 tk os5 F' N' B' X' T' l1
  (try dsimp only)
  show wpAny _ _ _ _ _ _
  k_fold
  k_extra "my steps"
  rename News _ _ _ _ => hN0
  obtain ⟨D, rfl⟩ := name1 hN0
  refine For_invV g (by rfl) (by rfl) ?_ (fun _ => rfl)
  k_extra "my steps"
  rename Fr _ _ _ _ => hF
  rename News _ _ _ _ => hN
  rename (_ ∧ AllLt _ _) => hlt
  obtain ⟨hSD, hos⟩ := hlt
  have hSDn : ¬ (@Eq Nat S D) := by have : @LT.lt Nat _ S D := hSD; (first | lia | omega)
  have hosD : OwnOff os [D] := fun p hp b hb => by
    rw [List.mem_singleton.mp hb]; have := allLt_mem hos p hp; exact Nat.ne_of_lt this
  refine kdl_iter (vs := vs) (nn := nS) (SymJ l S D vs nS os) rfl (List.Mem.head _) hF (news := (S, W.listOf vs.toArray nS) :: (D, W.listOf ([] : List Value).toArray 0) :: ([] ++ os)) (fun p hp => hN p ((by kcj_all : ∀ p ∈ (S, W.listOf vs.toArray nS) :: (D, W.listOf ([] : List Value).toArray 0) :: os, p ∈ _) p hp))
    ⟨[], 0, [], _, known2 rfl rfl, rfl, TupsAre.none, OwnOff.none, OwnOff.none⟩ ?_ ?_
  · clear hF hN
    intro i v m₁ news₁ h tk own hv hoff hl hJ F₁ N₁
    obtain ⟨ts, k, tos, u, rfl, rfl, hT, ho1, ho2⟩ := hJ
    have hi : i < l.length := by
      have := (List.getElem?_eq_some_iff.mp hv).1
      rw [hS.1] at this; exact this
    obtain ⟨⟨sn, c, pl⟩, hli⟩ : ∃ a, l[i]? = some a := ⟨_, List.getElem?_eq_getElem hi⟩
    obtain ⟨x, dx, es, n, e1, m1, m2, ⟨⟨t3, hg1⟩, ⟨t4, hg2⟩, ⟨t5, hg3⟩⟩, hfa⟩ := hS.2 i sn c pl hli
    rw [e1] at hv
    cases hv
    obtain ⟨rest, hr⟩ : ∃ r, r = (S, W.listOf vs.toArray nS) :: (tos ++ (os ++ own)) := ⟨_, rfl⟩
    have hx1 : ¬ (@Eq Nat x D) := hosD _ m1 D (List.mem_singleton.mpr rfl)
    have hx2 : ¬ (@Eq Nat dx D) := hosD _ m2 D (List.mem_singleton.mpr rfl)
    have hmr : ∀ p ∈ rest, p ∈ ((S, W.listOf vs.toArray nS) :: (D, W.listOf ts.toArray k) :: (tos ++ os)) ++ own := by
      subst hr
      intro p hp
      rcases List.mem_cons.mp hp with rfl | hp
      · exact List.Mem.head _
      · refine List.mem_cons_of_mem _ (List.mem_cons_of_mem _ ?_)
        rcases List.mem_append.mp hp with hp | hp
        · exact List.mem_append.mpr (.inl (List.mem_append.mpr (.inl hp)))
        · rcases List.mem_append.mp hp with hp | hp
          · exact List.mem_append.mpr (.inl (List.mem_append.mpr (.inr hp)))
          · exact List.mem_append.mpr (.inr hp)
    have hrD : OwnOff rest [D] := by
      subst hr
      intro p hp b hb
      rw [List.mem_singleton.mp hb]
      rcases List.mem_cons.mp hp with rfl | hp
      · exact hSDn
      · rcases List.mem_append.mp hp with hp | hp
        · exact ho1 p hp D (List.mem_singleton.mpr rfl)
        · rcases List.mem_append.mp hp with hp | hp
          · exact hosD p hp D (List.mem_singleton.mpr rfl)
          · exact hoff p hp D (List.Mem.tail _ (List.Mem.head _))
    have hDm : (D, W.listOf ts.toArray k) ∈ ((S, W.listOf vs.toArray nS) :: (D, W.listOf ts.toArray k) :: (tos ++ os)) ++ own := List.Mem.tail _ (List.Mem.head _)
    have hom : ∀ p ∈ os, p ∈ ((S, W.listOf vs.toArray nS) :: (D, W.listOf ts.toArray k) :: (tos ++ os)) ++ own := fun p hp => List.mem_append.mpr (.inl (List.mem_cons_of_mem _ (List.mem_cons_of_mem _ (List.mem_append.mpr (.inr hp)))))
    have htl : ts.length = i := by rw [hT.1, List.length_take]; (first | lia | omega)
    have hoff' : OwnOff own (((S, W.listOf vs.toArray nS) :: (D, W.listOf ts.toArray 0) :: (tos ++ os)).map (·.1)) := hoff
    rcases List.eq_nil_or_concat ts with rfl | ⟨ini, b, rfl⟩
    · have N₂ : News g L' h ((D, W.listOf #[] k) :: (x, instObj 319 dx) :: (dx, dictOf es n) :: rest) := fun p hp => N₁ p (by
        rcases List.mem_cons.mp hp with rfl | hp
        · exact hDm
        · rcases List.mem_cons.mp hp with rfl | hp
          · exact hom _ m1
          · rcases List.mem_cons.mp hp with rfl | hp
            · exact hom _ m2
            · exact hmr _ hp)
      clear N₁
      show wpAny _ _ _ _ _ _
      k_fold
      have hMk := kstMark
      k_extra "my steps"
      rename Fr _ _ _ _ => hF
      rename News _ _ _ _ => hN
      rename (_ ∧ _ ∧ _ ∧ _ ∧ AllLt _ _) => hlt
      obtain ⟨-, hTD, -, -, hTr⟩ := hlt
      exact sym_step hF hN hr hT ho1 ho2 hli (List.Mem.head _) (by k_mem) (by kcj_all) (Nat.ne_of_gt hTD) (fun p hp => (Nat.ne_of_lt (allLt_mem hTr p hp)).symm) hoff' rfl rfl
    · rw [List.concat_eq_append] at *
      have hil : i = ini.length + 1 := by rw [← htl, List.length_append]; rfl
      obtain ⟨⟨sn', c', pl'⟩, hli'⟩ : ∃ a, l[ini.length]? = some a := ⟨_, List.getElem?_eq_getElem (by (first | lia | omega))⟩
      have hti : (l.take i)[ini.length]? = some (sn', c', pl') := by rw [List.getElem?_take_of_lt (by (first | lia | omega))]; exact hli'
      obtain ⟨T0, t6, t7, e6, m6⟩ := hT.2 ini.length sn' c' pl' hti
      rw [List.getElem?_append_right (Nat.le_refl _), Nat.sub_self] at e6
      cases e6
      have hne9 : sn' ≠ sn := hA.at hli' (by rw [← hil]; exact hli)
      have hT0 : ¬ (@Eq Nat T0 D) := ho1 _ m6 D (List.mem_singleton.mpr rfl)
      have N₂ : News g L' h ((D, W.listOf (ini ++ [Value.ref T0]).toArray k) :: (x, instObj 319 dx) :: (dx, dictOf es n) :: (T0, { cls := .type "tuple", data := .seq #[.str sn' t6, .int c' t7] }) :: rest) := fun p hp => N₁ p (by
        rcases List.mem_cons.mp hp with rfl | hp
        · exact hDm
        · rcases List.mem_cons.mp hp with rfl | hp
          · exact hom _ m1
          · rcases List.mem_cons.mp hp with rfl | hp
            · exact hom _ m2
            · rcases List.mem_cons.mp hp with rfl | hp
              · exact List.mem_append.mpr (.inl (List.mem_cons_of_mem _ (List.mem_cons_of_mem _ (List.mem_append.mpr (.inl m6)))))
              · exact hmr _ hp)
      clear N₁
      have hvl : (ini ++ [Value.ref T0]).length ≤ 20 := by rw [htl]; (first | lia | omega)
      show wpAny _ _ _ _ _ _
      k_fold
      have hMk := kstMark
      k_extra "my steps"
      rename Fr _ _ _ _ => hF
      rename News _ _ _ _ => hN
      rename (_ ∧ _ ∧ _ ∧ _ ∧ _ ∧ AllLt _ _) => hlt
      obtain ⟨-, hTD, -, -, -, hTr⟩ := hlt
      exact sym_step hF hN hr hT ho1 ho2 hli (List.Mem.head _) (by k_mem) (by kcj_all) (Nat.ne_of_gt hTD) (fun p hp => (Nat.ne_of_lt (allLt_mem hTr p hp)).symm) hoff' rfl rfl
  · clear hF hN
    intro m₁ news₁ h tk hJ F₁ N₁
    obtain ⟨ts, k, tos, u, rfl, rfl, hT, ho1, ho2⟩ := hJ
    rw [List.take_of_length_le (by rw [hS.1]; exact Nat.le_refl _)] at hT
    (try dsimp only)
    show wpAny _ _ _ _ _ _
    (try k_fold)
    k_extra "my steps"
    show Ends _ _ _ _ _ _
    refine Ends.intro ((D, W.listOf ts.toArray k) :: tos) F₁ N₁ ?_ ?_ ?_ ⟨D, ts, k, tos, rfl, rfl, hT, ho1⟩
    · intro p hp
      rcases List.mem_cons.mp hp with rfl | hp
      · exact List.Mem.head _
      · exact List.mem_cons_of_mem _ (List.mem_cons_of_mem _ (List.mem_append.mpr (.inr hp)))
    · intro p hp
      rcases List.mem_cons.mp hp with rfl | hp
      · exact List.Mem.tail _ (List.Mem.head _)
      · exact List.mem_cons_of_mem _ (List.mem_cons_of_mem _ (List.mem_append.mpr (.inl hp)))
    · intro q hq p hp
      rcases List.mem_cons.mp hp with rfl | hp
      · rcases List.mem_cons.mp hq with rfl | hq
        · exact fun e => hSDn e.symm
        · exact fun e => hosD q hq D (List.mem_singleton.mpr rfl) e.symm
      · refine ho2 p hp _ ?_
        rcases List.mem_cons.mp hq with rfl | hq
        · exact List.Mem.head _
        · exact List.mem_cons_of_mem _ (List.mem_map.mpr ⟨q, hq, rfl⟩)
end
theorem wd48 : True := by
  k_with_none
  k_with "my fold" => (((first | (with_reducible show wpAny _ _ (exec (PySem.Stmt.Assign _ _ _) _) _ _ _) | (with_reducible show wpAny _ _ (exec (PySem.Stmt.Return _ _) _) _ _ _) | (with_reducible show wpAny _ _ (exec (PySem.Stmt.If _ _ _ _) _) _ _ _) | (with_reducible show wpAny _ _ (exec (PySem.Stmt.Expr _ _) _) _ _ _) | (with_reducible show wpAny _ _ (exec (PySem.Stmt.AugAssign _ _ _ _) _) _ _ _) | (with_reducible show wpAny _ _ (eval (PySem.Expr.BinOp _ _ _ _) _) _ _ _) | (with_reducible show wpAny _ _ (eval (PySem.Expr.Call _ _ _ _) _) _ _ _)); (fail_if_success (fail_if_success k_fold)); refine (let qk := _; keepQ qk ?_)))
  k_with "my get" => (assumption)
  k_with "mine call type:range" => ((k_here; (rename Fr _ _ _ _ => F'); (rename News _ _ _ _ => N'); (with_unfolding_all refine range1_rows F' N' ?_; intro _ _ _ _ _ _ _ _ _)))
  k_with "my steps" => (repeat' (first | ((fail_if_success (fail_if_success k_unfold)); (try dsimp only); refine (?_ : wpAny _ _ _ _ _ _)) | (k_unfold; (try dsimp only)) | k_extra "my fold" | ((fail_if_success (with_reducible show wpAny _ _ (pyIter _) (fun it s₂ => LoopAtV _ _ _ _ _ _ _ _ _ it s₂) _ _)); (fail_if_success (with_reducible show wpAny _ _ (pyIter _) (fun it s₂ => PairAt3 _ _ _ _ _ _ _ _ _ _ it s₂) _ _)); (fail_if_success (with_reducible show LoopStep3 _ _ _ _ _ _ _ _ _ _)); (fail_if_success (with_reducible show InvEndN _ _ _ _ _ _ _)); (fail_if_success (with_reducible show Ends _ _ _ _ _ _)); first | walk1 | (dsimp only; walk1) | (dsimp only; k_unfold; (try dsimp only)))))
  k_with "my plain steps" => (repeat' (first | ((fail_if_success (fail_if_success k_unfold)); (try dsimp only); refine (?_ : wpAny _ _ _ _ _ _)) | (k_unfold; (try dsimp only)) | ((fail_if_success (with_reducible show wpAny _ _ (pyIter _) (fun it s₂ => LoopAtV _ _ _ _ _ _ _ _ _ it s₂) _ _)); (fail_if_success (with_reducible show wpAny _ _ (pyIter _) (fun it s₂ => PairAt3 _ _ _ _ _ _ _ _ _ _ it s₂) _ _)); (fail_if_success (with_reducible show LoopStep3 _ _ _ _ _ _ _ _ _ _)); (fail_if_success (with_reducible show InvEndN _ _ _ _ _ _ _)); (fail_if_success (with_reducible show Ends _ _ _ _ _ _)); first | walk1 | (dsimp only; walk1) | (dsimp only; k_unfold; (try dsimp only)))))
  k_with "my bytes" => (first | exact all48 (by assumption) | (refine all_cons (by decide) ?_; k_extra "my bytes") | (refine all_snoc (by decide) ?_; k_extra "my bytes"))
  k_with "my size" => (first | (first | lia | omega) | ((try simp only [List.length_map, List.length_cons, List.length_append, List.length_nil, List.length_set, List.length_reverse, lits_length, figs_length, stepKs_length]); (first | lia | omega)))
  k_with "mine call type:bytes" => ((k_here; (with_reducible show wpAny _ _ (call (Value.type "bytes") [Value.ref _]) _ _ _); k_dflt (refine' bytesOf_K ?Fq563 ?Nq563 ?mq563 ?iq563 ?rq563 ?zq563 ?hq563 ?_; (case Fq563 => k_asm); (case Nq563 => k_asm); (case mq563 => k_mem); (case iq563 => assumption); (case rq563 => k_extra "my bytes"); (case zq563 => k_extra "my size"); (case hq563 => exact rfl); k_whole); intro h' t' k' F' N'; (try k_sweep)))
  k_with "my bytes" => ((refine all_set (u8_in _) ?_; k_extra "my bytes"))
  k_with "my byte at" => ((refine fig_at (by assumption) ?_; k_extra "my size"))
  k_with "mine subscriptTail" => ((k_here; (with_reducible show wpAny _ _ (subscriptTail _ _ (Value.bytes _ _) (Value.int _ _)) _ _ _); k_dflt (refine' bytesItem_K ?aq566 ?bq566 ?_ ?hsq566 ?htq566; (case aq566 => k_extra "my byte at"); (case bq566 => decide); (case hsq566 => with_unfolding_all rfl); (case htq566 => intro _; with_unfolding_all rfl))))
  k_with "my index" => (first | (first | lia | omega) | decide | assumption)
  k_with "mine compareOp In" => ((k_here; (with_reducible show wpAny _ _ (compareOp CmpOp.In (Value.int _ _) (Value.bytes _ _)) _ _ _); k_dflt (refine' in_bytes ?aq568 ?bq568 ?_; (case aq568 => (first | lia | omega)); (case bq568 => (first | lia | omega)))))
  k_with "mine getMethod" => ((k_here; (with_reducible show wpAny _ _ (getMethod (Value.bytes _ _) "index" _) _ _ _); refine index_method ?_))
  k_with "mine call builtin:bytes.index" => ((k_here; (with_reducible show wpAny _ _ (call (Value.builtin "bytes.index") [Value.bytes _ _, Value.int _ _]) _ _ _); k_dflt (refine' bytes_index _ ?aq570 ?bq570 ?cq570 ?dq570 ?_; (case aq570 => (first | lia | omega)); (case bq570 => (first | lia | omega)); (case cq570 => decide); (case dq570 => assumption)); intro _ _; (try dsimp only)))
  k_with "mine subscriptTail" => ((k_here; (with_reducible show wpAny _ _ (subscriptTail _ _ (Value.bytes (byteArr _) _) (Value.int _ _)) _ _ _); k_dflt (refine' bytesInt_K ?aq571 ?bq571 ?rq571 ?zq571 ?_ ?hsq571 ?htq571; (case aq571 => (first | lia | omega)); (case bq571 => assumption); (case rq571 => first | assumption | k_extra "my bytes"); (case zq571 => k_extra "my size"); (case hsq571 => with_unfolding_all rfl); (case htq571 => intro _; with_unfolding_all rfl)); intro _ _; (try dsimp only)))
  k_with "my pick" => ((with_reducible first | exact kmk_upto (by l_ints) (by (first | lia | omega)) | exact kmk_from (by l_ints) (by (first | lia | omega)) | exact kmk_upto_neg (by l_ints) (by (first | lia | omega)) | exact kmk_from_neg (by l_ints) (by (first | lia | omega))))
  k_with "mine subscriptTail Name Slice ref ref" => ((k_here; (with_reducible show wpAny _ _ (subscriptTail _ (PySem.Expr.Slice _ _ none _) (Value.ref _) (Value.ref _)) _ _ _); k_dflt (refine' kmk_slice_ints ?Fq573 ?Nq573 ?lq573 ?pq573 ?qq573 ?iq573 ?mq573 ?cq573 ?_ ?sq573 ?tq573 ?zq573; (case Fq573 => k_asm); (case Nq573 => k_asm); (case lq573 => kmk_list); (case pq573 => kmk_part); (case qq573 => kmk_part); (case iq573 => l_ints); (case mq573 => k_extra "my pick"); (case cq573 => kmk_len); (case sq573 => with_unfolding_all rfl); (case tq573 => kmk_pure); (case zq573 => kmk_size)); intro D' ws' h' F' N' l1 hI' hC' hL'; (try k_lt l1); (try k_sweep)))
  k_with "my ints" => (first | l_ints | exact IntsAre.cons _ _ IntsAre.nil | exact IntsAre.cons _ _ (IntsAre.cons _ _ IntsAre.nil))
  k_with "mine binaryOp Add ref ref" => ((k_here; (with_reducible show wpAny _ _ (binaryOp _ (Value.ref _) (Value.ref _)) _ _ _); k_dflt (refine' kmk_add_ints ?Fq575 ?Nq575 ?aq575 ?bq575 ?iq575 ?jq575 ?_ ?zq575; (case Fq575 => k_asm); (case Nq575 => k_asm); (case aq575 => kmk_list); (case bq575 => kmk_list); (case iq575 => k_extra "my ints"); (case jq575 => k_extra "my ints"); (case zq575 => first | ((simp only [sizeLine_eq]); k_extra "my size") | kmk_sum)); intro D' ws' h' F' N' l1 hI'; (try k_lt l1); (try k_sweep)))
  k_with "mine call builtin:len" => ((k_here; (with_reducible show wpAny _ _ (call (Value.builtin "len") [Value.bytes (byteArr _) _]) _ _ _); k_dflt (refine' len_byteArr ?zq576 ?_; (case zq576 => k_extra "my size")); intro _ _; (try dsimp only)))
  k_with "mine call builtin:ord" => ((k_here; (with_reducible show wpAny _ _ (call (Value.builtin "ord") [Value.str _ _]) _ _ _); refine ord_of_char ?_; (try dsimp only)))
  k_with "my text slice" => (((with_reducible rename Fr _ _ _ _ => F'); (with_reducible rename News _ _ _ _ => N'); first | ((with_reducible show wpAny _ _ (subscriptTail _ (Expr.Slice none (some _) none _) _ _) _ _ _); (refine slice_strN_ns_len (hsz := ?hszq578) (s := ⟨_, _, _, _, _⟩) F' N' ?_); (case hszq578 => rw [sizeLine_eq]; (first | lia | omega))) | ((with_reducible show wpAny _ _ (subscriptTail _ (Expr.Slice (some _) none none _) _ _) _ _ _); (refine slice_strN_sn_len (hsz := ?hszq578) (s := ⟨_, _, _, _, _⟩) F' N' ?_); (case hszq578 => rw [sizeLine_eq]; (first | lia | omega)))))
  k_with "my units" => (((try simp only [units_in1, units_deeper, Around.mark_units]); (try dsimp only [ktrTop]); (first | lia | omega)))
  k_with "my tail" => ((first | assumption | (refine' And.right ?_; first | assumption | (refine' And.right ?_; first | assumption | (refine' And.right ?_; first | assumption | (refine' And.right ?_; first | assumption | (refine' And.right ?_; first | assumption | (refine' And.right ?_; first | assumption | (refine' And.right ?_; first | assumption | (refine' And.right ?_; first | assumption | (refine' And.right ?_; assumption)))))))))))
  k_with "my conj" => (first | k_extra "my tail" | (refine' And.left ?_; k_extra "my tail") | (refine' And.left ?_; refine' And.left ?_; k_extra "my tail") | (refine' And.right ?_; refine' And.left ?_; k_extra "my tail"))
  k_with "my ne" => ((refine neN ?_; (try dsimp only); first | (refine' Nat.ne_of_lt ?_; k_extra "my conj") | (refine' Nat.ne_of_gt ?_; k_extra "my conj") | k_extra "my conj" | (refine' Ne.symm ?_; k_extra "my conj") | (first | lia | omega)))
  k_with "my sides" => (((case k1 => k_asm); (case k2 => k_asm); (case k3 => k_asm); (case k4 => k_asm); (case k5 => k_asm); (case kK => first | assumption | exact rfl); (case ks => kcj_all); (case kd => first | ((try simp only [depth_mark, depth_under_make, depth_under_kw, depth_in1, depth_deeper]); (try dsimp only [ktrTop]); first | (refine' room3 ?hhq583 ?llq583; (case hhq583 => assumption); (case llq583 => exact Nat.le_of_ble_eq_true rfl)) | (first | lia | omega)) | (with_unfolding_all exact Nat.le_of_ble_eq_true rfl)); (case ku => first | ((try simp only [units_in1, units_deeper, Around.mark_units]); (try dsimp only [ktrTop]); first | (refine' room3 ?hhq583 ?llq583; (case hhq583 => assumption); (case llq583 => exact Nat.le_of_ble_eq_true rfl)) | (first | lia | omega)) | (with_unfolding_all exact Nat.le_of_ble_eq_true rfl))))
  trivial
section
section
open LCg
/-- one item of a list of pairs, tested and perhaps taken -/
inductive PairTurn (prog : Program) (w : World) (A : Around) (h₀ : Heap) (L : Addr) (m : Str → Option Value) (env : Env) (ct elt : PySem.Expr) (x x₂ : Str) (scope : Scope) (cl : List (Str × Addr)) (s : Shared) (news : List (Addr × Obj)) (z : Option Int) : Value → Prop
  | mk (t : Addr) (ot : Obj) (v₁ v₂ : Value) (nt : Nat) : (t, ot) ∈ news → ot.cls = .type "tuple" → ot.data = .seq #[v₁, v₂] nt →
    (∀ I oI C oC D m₂ ys h tk (E' : Value → Shared → Prop), NsObj oC m₂ → m₂ x = some v₁ → m₂ x₂ = some v₂ → Fr h₀ L h m → News h₀ L h ((I, oI) :: (C, oC) :: (D, lst ys) :: news) → Off3 I C D news → ((@Ne Nat I C) ∧ (@Ne Nat I D) ∧ (@Ne Nat C D)) → KPfMark →
      wpAny (model prog w) A (isTrue ct (compEnvC scope cl C env) (eval ct (compEnvC scope cl C env))) (fun ok s' =>
        match z with
        | some k => ok = true ∧ wpAny (model prog w) A (eval elt (compEnvC scope cl C env)) (CompEnd h₀ L m { s with heap := h, toks := tk } I oI C oC D (lst ys) (fun _ => True) (fun y news' => KCfEl news k y news')) E' s'
        | none => ok = false ∧ CompEnd h₀ L m { s with heap := h, toks := tk } I oI C oC D (lst ys) (fun _ => True) (fun _ news' => news' = news) .none s') E' { s with heap := h, toks := tk }) →
    PairTurn prog w A h₀ L m env ct elt x x₂ scope cl s news z (.ref t)
/-- what stands before the turn i -/
inductive PairJ (h₀ : Heap) (L : Addr) (m : Str → Option Value) (I C D ax : Addr) (its : List Value) (zs : List (Option Int)) (news : List (Addr × Obj)) (s : Shared) : Nat → Shared → Prop
  | mk (h' : Heap) (tk i : Nat) (ys : List Value) (m' : Str → Option Value) : i ≤ its.length → IntsAre ys ((zs.take i).filterMap id) → ys.length ≤ i → (h'.IsListIter I ax i ∧ h'.IsList ax its.toArray) → Fr h₀ L h' m → h'.Ns C m' → News h₀ L h' ((D, lst ys) :: news) →
    PairJ h₀ L m I C D ax its zs news s (its.length + 1 - i) { s with heap := h', toks := tk }
inductive PairSrc (prog : Program) (w : World) (A : Around) (h₀ : Heap) (L : Addr) (m : Str → Option Value) (env : Env) (ct elt : PySem.Expr) (x x₂ : Str) (scope : Scope) (cl : List (Str × Addr)) (Fin : Shared → List Value → List (Addr × Obj) → Prop) (xv : Value) (s₁ : Shared) : Prop
  | mk (ax : Addr) (its : List Value) (nn : Nat) (zs : List (Option Int)) (news : List (Addr × Obj)) : (xv = .ref ax) → (A.handled = none) → (Fr h₀ L s₁.heap m) → (News h₀ L s₁.heap news) → ((ax, W.listOf its.toArray nn) ∈ news) → (its.length ≤ 1000) → (zs.length = its.length) → ((∀ s₂ : Shared, (∃ h, s₂ = { s₁ with heap := h }) → ∀ (i : Nat) (v : Value) (z : Option Int), its[i]? = some v → zs[i]? = some z → PairTurn prog w A h₀ L m env ct elt x x₂ scope cl s₂ news z v)) → (∀ s₂ : Shared, (∃ h, s₂ = { s₁ with heap := h }) → ∀ ys, IntsAre ys (zs.filterMap id) → Fin s₂ ys news) →
    PairSrc prog w A h₀ L m env ct elt x x₂ scope cl Fin xv s₁
variable {prog : Program} {w : World} {A : Around} {E : Value → Shared → Prop} {s : Shared} {h₀ : Heap} {L : Addr} {m : Str → Option Value} {env : Env}
theorem pair_loop {ct elt iter : PySem.Expr} {x x₂ : Str} {px px₂ tp : Pos} {kk : Nat} {scope : Scope} {cl : List (Str × Addr)} {pos : Pos} {ax I C D : Addr} {its : List Value} {nn : Nat} {zs : List (Option Int)} {news : List (Addr × Obj)} {m₁ : Str → Option Value} {h₁ : Heap} {tk₁ : Nat} {Rr : Result → Shared → Prop}
    (Wk : Walks prog w A I [I, ax] [I] its.length (fun i v => its.toArray[i]? = some v) (fun i h => h.IsListIter I ax i ∧ h.IsList ax its.toArray)) (hsz : its.length ≤ 1000) (hzl : zs.length = its.length) (hax : (ax, W.listOf its.toArray nn) ∈ news) (hh : A.handled = none)
    (hkind : scope.kind = .function) (hx : scope.names.lookup x = some .local) (hx₂ : scope.names.lookup x₂ = some .local) (hxx : x ≠ x₂)
    (F : Fr h₀ L h₁ m) (N : News h₀ L h₁ ((D, lst []) :: news)) (hn : h₁.Ns C m₁) (hst : h₁.IsListIter I ax 0 ∧ h₁.IsList ax its.toArray) (hI0 : h₀.get? I = none) (hC0 : h₀.get? C = none) (hD0 : h₀.get? D = none)
    (hIL : L ≠ I) (hCL : C ≠ L) (hDL : D ≠ L) (hCI : I ≠ C) (hDI : I ≠ D) (hDC : D ≠ C) (hDf : D ∉ [I, ax]) (hCf : C ∉ [I, ax]) (off : ∀ p ∈ news, p.1 ≠ I ∧ p.1 ≠ C ∧ p.1 ≠ D)
    (R : ∀ (i : Nat) (v : Value) (z : Option Int), its[i]? = some v → zs[i]? = some z → PairTurn prog w A h₀ L m env ct elt x x₂ scope cl s news z v)
    (fin : ∀ h tk m' ys, Fr h₀ L h m → News h₀ L h ((D, lst ys) :: news) → h.Ns C m' → IntsAre ys (zs.filterMap id) → Rr (.ok .next) { s with heap := h, toks := tk }) :
    codeAny (model prog w) A (.compLoop (.ListComp elt [⟨.Tuple [.Name x px, .Name x₂ px₂] kk tp, iter, [ct], 0⟩] scope pos) 0 (.ref I) (.ref D) (compEnvC scope cl C env)) Rr { s with heap := h₁, toks := tk₁ } := by
  refine kct_loop (PairJ h₀ L m I C D ax its zs news s) ?_ (its.length + 1)
    (PairJ.mk _ _ 0 [] _ (Nat.zero_le _) .nil (Nat.le_refl _) hst F hn N)
  intro k s' hJ
  clear hst F hn N
  cases hJ with | mk h' tk i ys m' hi hy hyl hst' F' hn' N' =>
  by_cases hlt : i < its.length
  · refine Wk.item i _ _ _ hlt hst' fun v h₂ tk₂ hPv hst₂ hk₂ => ?_
    have hv : its[i]? = some v := by simpa using hPv
    obtain ⟨z, hz⟩ : ∃ z, zs[i]? = some z := ⟨_, List.getElem?_eq_getElem (by (first | lia | omega))⟩
    have hR := R i v z hv hz
    clear R
    cases hR with | mk t ot v₁ v₂ nt hmt hct hdt R' =>
    have N₂ : News h₀ L h₂ ((D, lst ys) :: news) := news_but N' hk₂ fun p hp => by
      rcases List.mem_cons.mp hp with rfl | hp
      · exact Ne.symm hDI
      · exact (off p hp).1
    have ht : IsTup h₂ t #[v₁, v₂] := ⟨ot, (N₂ _ (List.mem_cons_of_mem _ hmt)).1, hct, nt, hdt⟩
    refine wpAny_letOwnedTupleGo_listiter hst₂.1 ?_
    refine assign_Tuple_tuple hh ht rfl rfl fun h₅ he => ?_
    have he' : ∀ b o, h₂.get? b = some o → h₅.get? b = some o := fun b o e => he b o (Nat.ne_of_lt (Heap.lt_size e)) e
    refine assignInOrder_cons (wpAny_assign_Name (wpAny_storeName_local (lookup_relabel_local hx) ((hn'.at' fun o e => hk₂ _ o (by simpa using Ne.symm hCI) e).at' fun o e => he' _ o e) (fun h₆ hn₆ hs₆ => ?_) (by simp [compEnvC, relabel, hkind])))
    refine assignInOrder_cons (wpAny_assign_Name (wpAny_storeName_local (lookup_relabel_local hx₂) hn₆ (fun h₃ hn₃ hs₃ => ?_) (by simp [compEnvC, relabel, hkind])))
    refine assignInOrder_nil ?_
    have old3 : ∀ b o, b ≠ C → h₂.get? b = some o → h₃.get? b = some o := fun b o hb e => hs₃.extBut b o hb (hs₆.extBut b o hb (he' b o e))
    have hst₃ : h₃.IsListIter I ax (i + 1) ∧ h₃.IsList ax its.toArray := Wk.frame _ _ _ hst₂ fun b hb o e => old3 b o (fun q => hCf (by rw [← q]; exact hb)) e
    obtain ⟨oI, heI, hoI1, hoI2⟩ := id hst₃.1
    obtain ⟨oC, heC, hoC⟩ := ns_obj hn₃
    have F₃ : Fr h₀ L h₃ m := (((fr_but F' hk₂ hIL hI0).keeps he').change hs₆ hCL hC0).change hs₃ hCL hC0
    have N₃ : News h₀ L h₃ ((I, oI) :: (C, oC) :: (D, lst ys) :: news) := fun p hp => by
      rcases List.mem_cons.mp hp with rfl | hp
      · exact ⟨heI, Ne.symm hIL, hI0⟩
      · rcases List.mem_cons.mp hp with rfl | hp
        · exact ⟨heC, hCL, hC0⟩
        · have z := N₂ p hp
          refine ⟨old3 _ _ ?_ z.1, z.2⟩
          rcases List.mem_cons.mp hp with rfl | hp
          · exact hDC
          · exact (off p hp).2.1
    have et : ∀ o, zs[i]? = some o → (zs.take (i + 1)).filterMap id = (zs.take i).filterMap id ++ [o].filterMap id := fun o ho => by rw [List.take_add_one, ho, List.filterMap_append]; rfl
    refine wpAny_mono (R' I oI C oC D _ ys h₃ _ _ hoC (by simp [hxx]) (by simp) F₃ N₃ (Off3.of off) ⟨hCI, hDI, Ne.symm hDC⟩ True.intro) (fun ok s₄ h₄ => ?_) fun _ _ e => e
    have back : ∀ (h₄ : Heap), News h₀ L h₄ ((I, oI) :: (C, oC) :: (D, lst ys) :: news) → h₄.IsListIter I ax (i + 1) ∧ h₄.IsList ax its.toArray := fun h₄ N₄ => ⟨⟨oI, (N₄ _ List.mem_cons_self).1, hoI1, hoI2⟩, ⟨_, (N₄ _ (List.mem_cons_of_mem _ (List.mem_cons_of_mem _ (List.mem_cons_of_mem _ hax)))).1, rfl, _, rfl⟩⟩
    cases z with
    | none =>
      obtain ⟨rfl, h₄, tk₄, news₄, rfl, F₄, N₄, -, -, hn4⟩ := h₄
      subst hn4
      simp only [Bool.false_eq_true, if_false]
      refine ⟨its.length + 1 - (i + 1), by (first | lia | omega), PairJ.mk _ _ _ ys _ hlt (by rw [et _ hz]; simpa using hy) (Nat.le_succ_of_le hyl) (back _ N₄) F₄ (hoC.ns (N₄ (C, oC) (List.mem_cons_of_mem _ List.mem_cons_self)).1) (fun p hp => N₄ p (List.mem_cons_of_mem _ (List.mem_cons_of_mem _ hp)))⟩
    | some k =>
      obtain ⟨rfl, h₄⟩ := h₄
      simp only [if_true]
      refine wpAny_mono h₄ (fun y s₅ h₅ => ?_) fun _ _ e => e
      obtain ⟨h₄, tk₄, news₄, rfl, F₄, N₄, -, -, hn4, ty, rfl⟩ := h₅
      subst hn4
      have zD := (N₄ (D, lst ys) (List.mem_cons_of_mem _ (List.mem_cons_of_mem _ List.mem_cons_self))).1
      refine append_at (hsz := by show ys.toArray.size ≤ sizeLine; rw [List.size_toArray, sizeLine_eq]; (first | lia | omega)) zD fun h₅ hs₅ hD₅ => ?_
      have hst₄ := back _ N₄
      refine ⟨its.length + 1 - (i + 1), by (first | lia | omega), PairJ.mk _ _ _ (ys ++ [.int k ty]) _ hlt ?_ (by rw [List.length_append, List.length_singleton]; exact Nat.succ_le_succ hyl) (Wk.frame _ _ _ hst₄ fun b hb o e => hs₅.extBut b o (fun q => hDf (q ▸ hb)) e) (F₄.change hs₅ hDL hD0)
        ((hoC.ns (N₄ (C, oC) (List.mem_cons_of_mem _ List.mem_cons_self)).1).sameBut hs₅ (Ne.symm hDC)) fun p hp => ?_⟩
      · rw [et _ hz]; exact hy.append (.cons k ty .nil)
      · rcases List.mem_cons.mp hp with rfl | hp
        · exact ⟨hD₅.trans (congrArg some (lst_snoc ys _)), hDL, hD0⟩
        · exact ⟨hs₅.extBut _ _ (off p hp).2.2 (N₄ p (List.mem_cons_of_mem _ (List.mem_cons_of_mem _ (List.mem_cons_of_mem _ hp)))).1, (N₄ p (List.mem_cons_of_mem _ (List.mem_cons_of_mem _ (List.mem_cons_of_mem _ hp)))).2⟩
  · obtain rfl : i = its.length := Nat.le_antisymm hi (Nat.not_lt.mp hlt)
    refine Wk.done _ _ _ hst' fun h₂ tk₂ hk₂ => ?_
    rw [List.take_of_length_le (by (first | lia | omega))] at hy
    exact fin h₂ tk₂ _ ys (fr_but F' hk₂ hIL hI0) (news_but N' hk₂ fun p hp => by
      rcases List.mem_cons.mp hp with rfl | hp
      · exact Ne.symm hDI
      · exact (off p hp).1) (hn'.at' fun o e => hk₂ _ o (by simpa using Ne.symm hCI) e) hy
theorem ListComp_pairs {ct elt iter : PySem.Expr} {x x₂ : Str} {px px₂ tp : Pos} {kk : Nat} {scope : Scope} {cl : List (Str × Addr)} {pos : Pos} {Q : Value → Shared → Prop} (F₀ : Fr h₀ L s.heap m)
    (hclos : closureFor scope env = pure cl) (hcell : ∀ y ∈ scope.names, y.2 ≠ .cell) (hkind : scope.kind = .function)
    (hnames : ∀ y ∈ scope.names, y.2 = .local → scope.names.lookup y.1 = some .local) (hx : scope.names.lookup x = some .local) (hx₂ : scope.names.lookup x₂ = some .local) (hxx : x ≠ x₂)
    (h : wpAny (model prog w) A (eval iter env) (PairSrc prog w A h₀ L m env ct elt x x₂ scope cl (fun s₂ => FinE h₀ L m s₂ Q)) E s)
    (hs : ∀ x, foldedSetIterable iter env x = pure x) :
    wpAny (model prog w) A (eval (.ListComp elt [⟨.Tuple [.Name x px, .Name x₂ px₂] kk tp, iter, [ct], 0⟩] scope pos) env) Q E s := by
  rw [eval_ListComp]
  refine wpAny_comprehension_free (use := none) rfl hs hclos hkind hnames (wpAny_mono h (fun xv s₁ h₁ => ?_) fun _ _ e => e)
  obtain ⟨ax, its, nn, zs, news, rfl, hh, F, N, hax, hsz, hzl, R, RF⟩ := h₁
  have hl : s₁.heap.IsList ax its.toArray := ⟨_, (N _ hax).1, rfl, _, rfl⟩
  have haxlt : ax < s₁.heap.objs.size := Heap.lt_size (N _ hax).1
  refine wpAny_pyIter_list hl ?_
  obtain ⟨I, hI⟩ : ∃ I, I = s₁.heap.objs.size := ⟨_, rfl⟩
  obtain ⟨H1, hH1⟩ : ∃ H1, H1 = s₁.heap.push { cls := .type "list_iterator", data := .fields #[.ref ax, .int 0 0] } := ⟨_, rfl⟩
  have up1 : ∀ b o, s₁.heap.get? b = some o → H1.get? b = some o := fun b o e => hH1 ▸ Heap.get?_push_of_some _ e
  have hit1 : H1.IsListIter I ax 0 := by subst hH1; subst hI; exact ⟨_, Heap.get?_push_size _ rfl, rfl, rfl⟩
  have F1 : Fr h₀ L H1 m := F.keeps up1
  have N1 : News h₀ L H1 news := N.grown up1
  have hI0 : h₀.get? I = none := hI ▸ next_is_new F
  have hIL : L ≠ I := hI ▸ Nat.ne_of_lt F.ns.lt
  have offI : ∀ p ∈ news, p.1 ≠ I := fun p hp => hI ▸ Nat.ne_of_lt (Heap.lt_size (N p hp).1)
  have hI1 : I < H1.objs.size := by rw [hH1, Heap.size_push, hI]; exact Nat.lt_succ_self _
  rw [← hH1, ← hI]
  refine wpAny_newObj_type (wpAny_newFunctionEnv hcell (by intro y hy; simp at hy) (fun h₁ hns₁ hsb₁ => ?_) hkind)
  dsimp only at hns₁ hsb₁ ⊢
  generalize hH2 : H1.push { cls := .type "list", dict := none, data := .seq ([] : List Value).toArray } = H2 at hns₁ hsb₁ ⊢
  obtain ⟨D, hD⟩ : ∃ D, D = H1.objs.size := ⟨_, rfl⟩
  obtain ⟨C, hCe⟩ : ∃ C, C = H2.objs.size := ⟨_, rfl⟩
  have hC : C = D + 1 := by rw [hCe, ← hH2, Heap.size_push, hD]
  rw [← hD]
  rw [← hCe] at hns₁ hsb₁ ⊢
  have hDC : D ≠ C := by rw [hC]; exact Nat.ne_of_lt (Nat.lt_succ_self _)
  have below : ∀ b, b < H1.objs.size → b ≠ C ∧ b ≠ D := fun b hb => ⟨by rw [hC, hD]; exact Nat.ne_of_lt (Nat.lt_succ_of_lt hb), by rw [hD]; exact Nat.ne_of_lt hb⟩
  have old : ∀ b o, H1.get? b = some o → h₁.get? b = some o := fun b o e => hsb₁.extBut b o (below b (Heap.lt_size e)).1 (Heap.get?_push_of_some _ (hH2 ▸ Heap.get?_push_of_some _ e))
  have hacc : h₁.get? D = some (lst []) := hsb₁.extBut _ _ hDC (Heap.get?_push_of_some _ (hH2 ▸ hD ▸ Heap.get?_push_size _ rfl))
  have fresh₀ : ∀ a, H1.objs.size ≤ a → h₀.get? a = none := fun a ha => by
    cases e : h₀.get? a with
    | none => rfl
    | some o' => exact absurd (Heap.lt_size (F1.keep a o' e)) (Nat.not_lt.mpr ha)
  have hD₀ : h₀.get? D = none := fresh₀ _ (by rw [hD]; exact Nat.le_refl _)
  have hC₀ : h₀.get? C = none := fresh₀ _ (by rw [hC, hD]; exact Nat.le_succ _)
  have hLlt : L < H1.objs.size := F1.ns.lt
  have hDL : D ≠ L := Ne.symm (below L hLlt).2
  have hCL : C ≠ L := Ne.symm (below L hLlt).1
  have hCI : I ≠ C := (below I hI1).1
  have hDI : I ≠ D := (below I hI1).2
  have off3 : ∀ p ∈ news, p.1 ≠ I ∧ p.1 ≠ C ∧ p.1 ≠ D := fun p hp => ⟨offI p hp, (below _ (Heap.lt_size (N1 p hp).1)).1, (below _ (Heap.lt_size (N1 p hp).1)).2⟩
  have off₀ : Off3 I C D news := Off3.of off3
  have W := Walks.list (prog := prog) (w := w) hh I ax (hI ▸ Nat.ne_of_lt haxlt) its.toArray
  have hn : its.toArray.size = its.length := by simp
  rw [hn] at W
  have hDf : D ∉ [I, ax] := fun hm => by
    rcases List.mem_cons.mp hm with e | hm
    · exact hDI e.symm
    · have := (below ax (Heap.lt_size (N1 _ hax).1)).2
      exact this (List.mem_singleton.mp hm).symm
  have hCf : C ∉ [I, ax] := fun hm => by
    rcases List.mem_cons.mp hm with e | hm
    · exact hCI e.symm
    · exact (below ax (Heap.lt_size (N1 _ hax).1)).1 (List.mem_singleton.mp hm).symm
  have hst₁ : h₁.IsListIter I ax 0 ∧ h₁.IsList ax its.toArray := ⟨hit1.at fun o e => old _ o e, ⟨_, old _ _ (N1 _ hax).1, rfl, _, rfl⟩⟩
  have N₁ : News h₀ L h₁ ((D, lst []) :: news) := fun p hp => by
    rcases List.mem_cons.mp hp with rfl | hp
    · exact ⟨hacc, hDL, hD₀⟩
    · exact ⟨old _ _ (N1 p hp).1, (N1 p hp).2⟩
  have R1 := R { s₁ with heap := H1 } ⟨_, rfl⟩
  have RF1 := RF { s₁ with heap := H1 } ⟨_, rfl⟩
  have loop := fun Rr tk₁ => pair_loop (s := { s₁ with heap := H1 }) (ct := ct) (elt := elt) (iter := iter) (px := px) (px₂ := px₂) (tp := tp) (kk := kk) (pos := pos) (tk₁ := tk₁) (Rr := Rr) W hsz hzl hax hh hkind hx hx₂ hxx (F1.keeps old) N₁ hns₁ hst₁ hI0 hC₀ hD₀ hIL hCL hDL hCI hDI hDC hDf hCf off3 R1
  refine codeAny_compStart_list (loop _ _ ?_) (W.self 0 _ _ _ hst₁ (loop _ _ ?_))
  all_goals (
    intro h tk m' ys F' N' hn hy
    refine ⟨m', hn, fun h'' hs'' => RF1 ys hy D h'' tk (F'.change hs'' hCL hC₀) (fun p hp => ?_) ?_⟩
    · refine ⟨hs''.extBut _ _ ?_ (N' p hp).1, (N' p hp).2⟩
      rcases List.mem_cons.mp hp with rfl | hp
      · exact hDC
      · exact (off3 p hp).2.1
    · exact Off3.one (Off3.of off3))
end
end
section
theorem wd49 : True := by
  k_with "mine eval ListComp" => ((k_here; k_dflt (refine ListComp_pairs (F₀ := by k_asm) (by with_unfolding_all rfl) (by decide) (by rfl) (by decide) (by rfl) (by rfl) (by decide) ?_ (fun _ => rfl))))
  trivial
def Plains (l : List (Str × Int × Int)) : Prop := ∀ a ∈ l, a.1 = Str.ofString "S" ∨ a.1 = Str.ofString "9" ∨ a.1 = Str.ofString "V"
def laid (l : List (Str × Int × Int)) : List (Option Int) := l.map fun a => if a.1 = Str.ofString "9" then some a.2.1 else none
def sizeOf (l : List (Str × Int × Int)) : Int := ((laid l).filterMap id).sum
theorem laid_at {l : List (Str × Int × Int)} {ts : List Value} {os : List (Addr × Obj)} {i : Nat} {v : Value} {z : Option Int} (hT : TupsAre l ts os) (hP : Plains l) (hv : ts[i]? = some v) (hz : (laid l)[i]? = some z) :
    ∃ (sn : Str) (c : Int) (T : Addr) (t1 t2 : Tok), v = Value.ref T ∧ (T, ({ cls := .type "tuple", data := .seq #[.str sn t1, .int c t2] } : Obj)) ∈ os ∧ ((sn = Str.ofString "9" ∧ z = some c) ∨ (sn = Str.ofString "S" ∧ z = none) ∨ (sn = Str.ofString "V" ∧ z = none)) := by
  have hi : i < l.length := by
    have := (List.getElem?_eq_some_iff.mp hv).1
    rw [hT.1] at this; exact this
  obtain ⟨⟨sn, c, pl⟩, hli⟩ : ∃ a, l[i]? = some a := ⟨_, List.getElem?_eq_getElem hi⟩
  obtain ⟨T, t1, t2, e1, m1⟩ := hT.2 i sn c pl hli
  rw [e1] at hv
  cases hv
  unfold laid at hz
  rw [List.getElem?_map, hli] at hz
  cases hz
  refine ⟨sn, c, T, t1, t2, rfl, m1, ?_⟩
  rcases hP _ (List.mem_of_getElem? hli) with rfl | rfl | rfl
  · exact .inr (.inl ⟨rfl, if_neg (show ¬ Str.ofString "S" = Str.ofString "9" by decide)⟩)
  · exact .inl ⟨rfl, if_pos rfl⟩
  · exact .inr (.inr ⟨rfl, if_neg (show ¬ Str.ofString "V" = Str.ofString "9" by decide)⟩)
theorem size_of_symbols_spec (w : World) (S : Addr) (l : List (Str × Int × Int)) (ts : List Value) (nS : Nat) (tos : List (Addr × Obj)) (hT : TupsAre l ts tos) (hP : Plains l) (hl9 : l.length ≤ 4) :
    Spec w (hd.heap_1 w.params) 354 [.ref S] ((S, W.listOf ts.toArray nS) :: tos) 1 (fun v new => new = [] ∧ ∃ t, v = .int (sizeOf l) t) := by
  unfold Spec
  intro dp un gd cn cs a ccd cl outer A₀ base h₀ L m mg mb mean news s Q E B F X N T hk hs hroom hun ret
  refine enterC (binds := [(Str.ofString "symbols", .ref S)]) B F X N T rfl rfl hk hs (by k_is) (by k_is) (show dp < recursionLimit from Nat.lt_of_le_of_lt (Nat.le_add_right _ _) hroom) (BindsTo.of_eq rfl) (locs rfl) ret ?_ rfl rfl rfl (by decide)
  clear B F X N T ret hs
  intro g L' h₁ gs5 dr5 tk os5 F' N' B' X' T' l1
  (try dsimp only)
  show wpAny _ _ _ _ _ _
  k_fold
  k_extra "my steps"
  rename Fr _ _ _ _ => hF
  rename News _ _ _ _ => hN
  refine ⟨S, ts, nS, laid l, _, rfl, rfl, hF, hN, by k_mem, by rw [hT.1]; (first | lia | omega), by rw [hT.1]; exact List.length_map _, ?_, ?_⟩
  · intro s₂ hs₂ i v z hv hz
    obtain ⟨h9, rfl⟩ := hs₂
    obtain ⟨sn, c, T, t1, t2, rfl, m1, hc⟩ := laid_at hT hP hv hz
    refine ⟨T, _, _, _, _, (by kcj_all : ∀ p ∈ tos, p ∈ _) _ m1, rfl, rfl, ?_⟩
    intro I oI C oC D m₂ ys h tk E' hC hx1 hx2 F₂ N₂ off ne hMk
    have off9 := off
    clear hF hN
    simp only [LCg.Off3, and_true] at off
    rcases hc with ⟨rfl, rfl⟩ | ⟨rfl, rfl⟩ | ⟨rfl, rfl⟩
    all_goals (
      (try dsimp only)
      show wpAny _ _ _ _ _ _
      k_fold
      k_extra "my steps"
      first | exact ⟨rfl, _, intVal (Int.mul_one c)⟩ | exact LCg.CompEnd.intro (by k_asm) (by k_asm) _ (by kcj_all) off9 trivial rfl)
  · intro s₂ hs₂ ys hy D h tk F₂ N₂ off
    obtain ⟨h9, rfl⟩ := hs₂
    clear hF hN
    (try dsimp only)
    k_extra "my steps"
    exact Ends.plain (by k_asm) (by k_asm) (by kcj_all) ⟨rfl, _, rfl⟩
end
theorem wd50 : True := by
  k_with_none
  k_with "my fold" => (((first | (with_reducible show wpAny _ _ (exec (PySem.Stmt.Assign _ _ _) _) _ _ _) | (with_reducible show wpAny _ _ (exec (PySem.Stmt.Return _ _) _) _ _ _) | (with_reducible show wpAny _ _ (exec (PySem.Stmt.If _ _ _ _) _) _ _ _) | (with_reducible show wpAny _ _ (exec (PySem.Stmt.Expr _ _) _) _ _ _) | (with_reducible show wpAny _ _ (exec (PySem.Stmt.AugAssign _ _ _ _) _) _ _ _) | (with_reducible show wpAny _ _ (eval (PySem.Expr.BinOp _ _ _ _) _) _ _ _) | (with_reducible show wpAny _ _ (eval (PySem.Expr.Call _ _ _ _) _) _ _ _)); (fail_if_success (fail_if_success k_fold)); refine (let qk := _; keepQ qk ?_)))
  k_with "my get" => (assumption)
  k_with "mine call type:range" => ((k_here; (rename Fr _ _ _ _ => F'); (rename News _ _ _ _ => N'); (with_unfolding_all refine range1_rows F' N' ?_; intro _ _ _ _ _ _ _ _ _)))
  k_with "my steps" => (repeat' (first | ((fail_if_success (fail_if_success k_unfold)); (try dsimp only); refine (?_ : wpAny _ _ _ _ _ _)) | (k_unfold; (try dsimp only)) | k_extra "my fold" | ((fail_if_success (with_reducible show wpAny _ _ (pyIter _) (fun it s₂ => LoopAtV _ _ _ _ _ _ _ _ _ it s₂) _ _)); (fail_if_success (with_reducible show wpAny _ _ (pyIter _) (fun it s₂ => PairAt3 _ _ _ _ _ _ _ _ _ _ it s₂) _ _)); (fail_if_success (with_reducible show LoopStep3 _ _ _ _ _ _ _ _ _ _)); (fail_if_success (with_reducible show InvEndN _ _ _ _ _ _ _)); (fail_if_success (with_reducible show Ends _ _ _ _ _ _)); first | walk1 | (dsimp only; walk1) | (dsimp only; k_unfold; (try dsimp only)))))
  k_with "my plain steps" => (repeat' (first | ((fail_if_success (fail_if_success k_unfold)); (try dsimp only); refine (?_ : wpAny _ _ _ _ _ _)) | (k_unfold; (try dsimp only)) | ((fail_if_success (with_reducible show wpAny _ _ (pyIter _) (fun it s₂ => LoopAtV _ _ _ _ _ _ _ _ _ it s₂) _ _)); (fail_if_success (with_reducible show wpAny _ _ (pyIter _) (fun it s₂ => PairAt3 _ _ _ _ _ _ _ _ _ _ it s₂) _ _)); (fail_if_success (with_reducible show LoopStep3 _ _ _ _ _ _ _ _ _ _)); (fail_if_success (with_reducible show InvEndN _ _ _ _ _ _ _)); (fail_if_success (with_reducible show Ends _ _ _ _ _ _)); first | walk1 | (dsimp only; walk1) | (dsimp only; k_unfold; (try dsimp only)))))
  k_with "my bytes" => (first | exact all48 (by assumption) | (refine all_cons (by decide) ?_; k_extra "my bytes") | (refine all_snoc (by decide) ?_; k_extra "my bytes"))
  k_with "my size" => (first | (first | lia | omega) | ((try simp only [List.length_map, List.length_cons, List.length_append, List.length_nil, List.length_set, List.length_reverse, lits_length, figs_length, stepKs_length]); (first | lia | omega)))
  k_with "mine call type:bytes" => ((k_here; (with_reducible show wpAny _ _ (call (Value.type "bytes") [Value.ref _]) _ _ _); k_dflt (refine' bytesOf_K ?Fq592 ?Nq592 ?mq592 ?iq592 ?rq592 ?zq592 ?hq592 ?_; (case Fq592 => k_asm); (case Nq592 => k_asm); (case mq592 => k_mem); (case iq592 => assumption); (case rq592 => k_extra "my bytes"); (case zq592 => k_extra "my size"); (case hq592 => exact rfl); k_whole); intro h' t' k' F' N'; (try k_sweep)))
  k_with "my bytes" => ((refine all_set (u8_in _) ?_; k_extra "my bytes"))
  k_with "my byte at" => ((refine fig_at (by assumption) ?_; k_extra "my size"))
  k_with "mine subscriptTail" => ((k_here; (with_reducible show wpAny _ _ (subscriptTail _ _ (Value.bytes _ _) (Value.int _ _)) _ _ _); k_dflt (refine' bytesItem_K ?aq595 ?bq595 ?_ ?hsq595 ?htq595; (case aq595 => k_extra "my byte at"); (case bq595 => decide); (case hsq595 => with_unfolding_all rfl); (case htq595 => intro _; with_unfolding_all rfl))))
  k_with "my index" => (first | (first | lia | omega) | decide | assumption)
  k_with "mine compareOp In" => ((k_here; (with_reducible show wpAny _ _ (compareOp CmpOp.In (Value.int _ _) (Value.bytes _ _)) _ _ _); k_dflt (refine' in_bytes ?aq597 ?bq597 ?_; (case aq597 => (first | lia | omega)); (case bq597 => (first | lia | omega)))))
  k_with "mine getMethod" => ((k_here; (with_reducible show wpAny _ _ (getMethod (Value.bytes _ _) "index" _) _ _ _); refine index_method ?_))
  k_with "mine call builtin:bytes.index" => ((k_here; (with_reducible show wpAny _ _ (call (Value.builtin "bytes.index") [Value.bytes _ _, Value.int _ _]) _ _ _); k_dflt (refine' bytes_index _ ?aq599 ?bq599 ?cq599 ?dq599 ?_; (case aq599 => (first | lia | omega)); (case bq599 => (first | lia | omega)); (case cq599 => decide); (case dq599 => assumption)); intro _ _; (try dsimp only)))
  k_with "mine subscriptTail" => ((k_here; (with_reducible show wpAny _ _ (subscriptTail _ _ (Value.bytes (byteArr _) _) (Value.int _ _)) _ _ _); k_dflt (refine' bytesInt_K ?aq600 ?bq600 ?rq600 ?zq600 ?_ ?hsq600 ?htq600; (case aq600 => (first | lia | omega)); (case bq600 => assumption); (case rq600 => first | assumption | k_extra "my bytes"); (case zq600 => k_extra "my size"); (case hsq600 => with_unfolding_all rfl); (case htq600 => intro _; with_unfolding_all rfl)); intro _ _; (try dsimp only)))
  k_with "my pick" => ((with_reducible first | exact kmk_upto (by l_ints) (by (first | lia | omega)) | exact kmk_from (by l_ints) (by (first | lia | omega)) | exact kmk_upto_neg (by l_ints) (by (first | lia | omega)) | exact kmk_from_neg (by l_ints) (by (first | lia | omega))))
  k_with "mine subscriptTail Name Slice ref ref" => ((k_here; (with_reducible show wpAny _ _ (subscriptTail _ (PySem.Expr.Slice _ _ none _) (Value.ref _) (Value.ref _)) _ _ _); k_dflt (refine' kmk_slice_ints ?Fq602 ?Nq602 ?lq602 ?pq602 ?qq602 ?iq602 ?mq602 ?cq602 ?_ ?sq602 ?tq602 ?zq602; (case Fq602 => k_asm); (case Nq602 => k_asm); (case lq602 => kmk_list); (case pq602 => kmk_part); (case qq602 => kmk_part); (case iq602 => l_ints); (case mq602 => k_extra "my pick"); (case cq602 => kmk_len); (case sq602 => with_unfolding_all rfl); (case tq602 => kmk_pure); (case zq602 => kmk_size)); intro D' ws' h' F' N' l1 hI' hC' hL'; (try k_lt l1); (try k_sweep)))
  k_with "my ints" => (first | l_ints | exact IntsAre.cons _ _ IntsAre.nil | exact IntsAre.cons _ _ (IntsAre.cons _ _ IntsAre.nil))
  k_with "mine binaryOp Add ref ref" => ((k_here; (with_reducible show wpAny _ _ (binaryOp _ (Value.ref _) (Value.ref _)) _ _ _); k_dflt (refine' kmk_add_ints ?Fq604 ?Nq604 ?aq604 ?bq604 ?iq604 ?jq604 ?_ ?zq604; (case Fq604 => k_asm); (case Nq604 => k_asm); (case aq604 => kmk_list); (case bq604 => kmk_list); (case iq604 => k_extra "my ints"); (case jq604 => k_extra "my ints"); (case zq604 => first | ((simp only [sizeLine_eq]); k_extra "my size") | kmk_sum)); intro D' ws' h' F' N' l1 hI'; (try k_lt l1); (try k_sweep)))
  k_with "mine call builtin:len" => ((k_here; (with_reducible show wpAny _ _ (call (Value.builtin "len") [Value.bytes (byteArr _) _]) _ _ _); k_dflt (refine' len_byteArr ?zq605 ?_; (case zq605 => k_extra "my size")); intro _ _; (try dsimp only)))
  k_with "mine call builtin:ord" => ((k_here; (with_reducible show wpAny _ _ (call (Value.builtin "ord") [Value.str _ _]) _ _ _); refine ord_of_char ?_; (try dsimp only)))
  k_with "my text slice" => (((with_reducible rename Fr _ _ _ _ => F'); (with_reducible rename News _ _ _ _ => N'); first | ((with_reducible show wpAny _ _ (subscriptTail _ (Expr.Slice none (some _) none _) _ _) _ _ _); (refine slice_strN_ns_len (hsz := ?hszq607) (s := ⟨_, _, _, _, _⟩) F' N' ?_); (case hszq607 => rw [sizeLine_eq]; (first | lia | omega))) | ((with_reducible show wpAny _ _ (subscriptTail _ (Expr.Slice (some _) none none _) _ _) _ _ _); (refine slice_strN_sn_len (hsz := ?hszq607) (s := ⟨_, _, _, _, _⟩) F' N' ?_); (case hszq607 => rw [sizeLine_eq]; (first | lia | omega)))))
  k_with "my units" => (((try simp only [units_in1, units_deeper, Around.mark_units]); (try dsimp only [ktrTop]); (first | lia | omega)))
  k_with "my tail" => ((first | assumption | (refine' And.right ?_; first | assumption | (refine' And.right ?_; first | assumption | (refine' And.right ?_; first | assumption | (refine' And.right ?_; first | assumption | (refine' And.right ?_; first | assumption | (refine' And.right ?_; first | assumption | (refine' And.right ?_; first | assumption | (refine' And.right ?_; first | assumption | (refine' And.right ?_; assumption)))))))))))
  k_with "my conj" => (first | k_extra "my tail" | (refine' And.left ?_; k_extra "my tail") | (refine' And.left ?_; refine' And.left ?_; k_extra "my tail") | (refine' And.right ?_; refine' And.left ?_; k_extra "my tail"))
  k_with "my ne" => ((refine neN ?_; (try dsimp only); first | (refine' Nat.ne_of_lt ?_; k_extra "my conj") | (refine' Nat.ne_of_gt ?_; k_extra "my conj") | k_extra "my conj" | (refine' Ne.symm ?_; k_extra "my conj") | (first | lia | omega)))
  k_with "my sides" => (((case k1 => k_asm); (case k2 => k_asm); (case k3 => k_asm); (case k4 => k_asm); (case k5 => k_asm); (case kK => first | assumption | exact rfl); (case ks => kcj_all); (case kd => first | ((try simp only [depth_mark, depth_under_make, depth_under_kw, depth_in1, depth_deeper]); (try dsimp only [ktrTop]); first | (refine' room3 ?hhq612 ?llq612; (case hhq612 => assumption); (case llq612 => exact Nat.le_of_ble_eq_true rfl)) | (first | lia | omega)) | (with_unfolding_all exact Nat.le_of_ble_eq_true rfl)); (case ku => first | ((try simp only [units_in1, units_deeper, Around.mark_units]); (try dsimp only [ktrTop]); first | (refine' room3 ?hhq612 ?llq612; (case hhq612 => assumption); (case llq612 => exact Nat.le_of_ble_eq_true rfl)) | (first | lia | omega)) | (with_unfolding_all exact Nat.le_of_ble_eq_true rfl))))
  k_with "mine execs cons" => ((k_here; (with_reducible show wpAny _ _ (execs (PySem.Stmt.Assign [PySem.Expr.Attribute _ _ _] _ _ :: _) _) _ _ _); k_dflt (refine' init_step ?hCq613 ?Xq613 ?Fq613 ?Nq613 ?lq613 ?sq613 rfl ?vq613 ?sfq613 ?tq613 ?hlq613 ?hzq613 ?swq613 ?_; (case hCq613 => assumption); (case Xq613 => assumption); (case Fq613 => k_asm); (case Nq613 => k_asm); (case lq613 => assumption); (case sq613 => assumption); (case vq613 => exact rfl); (case sfq613 => exact rfl); (case tq613 => k_is); (case hlq613 => exact rfl); (case hzq613 => exact Nat.le_of_ble_eq_true rfl); (case swq613 => exact rfl); intro h' t' tk' n' F' N'; (try dsimp only [List.cons_append, List.nil_append] at N'); (try k_sweep))))
  trivial
section
/-- the fields of an Order that has taken S, 9 and V alone -/
structure OrderIs (es : List DictEntry) (seen : Int) (plain : Bool) (point : Str) (nines behind : Int) (last : Str) : Prop where
  seen : ∃ t, getL "seen" es = some (some (.int seen t))
  plain : getL "is_plain" es = some (some (.bool plain))
  point : ∃ t, getL "point" es = some (some (.str point t))
  lead : ∃ t, getL "lead" es = some (some (.int 0 t))
  trail : ∃ t, getL "trail" es = some (some (.int 0 t))
  nines : ∃ t, getL "nines" es = some (some (.int nines t))
  zeros : ∃ t, getL "zeros" es = some (some (.int 0 t))
  floats : ∃ t, getL "floats" es = some (some (.int 0 t))
  behind : ∃ t, getL "behind" es = some (some (.int behind t))
  late : getL "is_late" es = some (some (.bool false))
  sign : ∃ t, getL "sign" es = some (some (.str (Str.ofString "") t))
  last : ∃ t, getL "last" es = some (some (.str last t))
  over : getL "is_over" es = some (some (.bool false))
structure NoMeth (es : List DictEntry) : Prop where
  take : getL "take" es = some none
  nine : getL "take_nine" es = some none
  point : getL "take_point" es = some none
  behind : getL "add_behind" es = some none
  digits : getL "digits" es = some none
  whole : getL "is_whole" es = some none
  scale : getL "scale" es = some none
theorem order_new (w : World) :
    Spec w (hd.heap_1 w.params) 476 [] [] 2 (fun v new => ∃ x dx es n, v = .ref x ∧ new = [(x, instObj 476 dx), (dx, dictOf es n)] ∧ OrderIs es 0 false (Str.ofString "") 0 0 (Str.ofString "") ∧ NoMeth es ∧ es.length ≤ 16 ∧ @LT.lt Nat _ dx x) := by
  unfold Spec
  intro dp un gd cn cs a ccd cl outer A₀ base h₀ L m mg mb mean news s Q E B F X N T hk hs hroom hun ret
  refine enterI (binds := fun x => [(Str.ofString "self", .ref x)]) (P := fun x new => ∃ dx es n, new = [(x, instObj 476 dx), (dx, dictOf es n)] ∧ OrderIs es 0 false (Str.ofString "") 0 0 (Str.ofString "") ∧ NoMeth es ∧ es.length ≤ 16 ∧ @LT.lt Nat _ dx x) B F X N T rfl rfl hk hs (by k_is) (by k_is) (by k_is) (by k_is) (by k_is) (by simp only [depth_under_make]; show dp + 1 < recursionLimit; (first | lia | omega)) (fun x h' X' => BindsTo.of_eq rfl) (fun x => locs rfl) (fun x new h' tk' F N D P => ret _ new h' tk' F N D ?_) ?_ rfl rfl rfl (by decide)
  · obtain ⟨dx, es, n, e1, e2, e3, e4, e5⟩ := P
    exact ⟨x, dx, es, n, rfl, e1, e2, e3, e4, e5⟩
  clear B F X N T ret hs
  intro x dx g L' h₁ gs5 dr5 tk os5 ldx F' N' B' X' T' l1 l2
  have hC : PlainCls (hd.heap_1 w.params) 476 := ⟨by k_is, by k_is, by k_is⟩
  have hsub : ∀ p ∈ @List.nil (Addr × Obj), @Ne Nat p.1 dx := fun _ h => nomatch h
  (try dsimp only)
  show wpAny _ _ _ _ _ _
  k_fold
  k_extra "my steps"
  refine EndsI.intro [_, _] (by k_asm) (by k_asm) (fun _ h => nomatch h) (by kcj_all) (fun _ h => nomatch h) ⟨_, _, _, rfl, ⟨⟨_, rfl⟩, rfl, ⟨_, rfl⟩, ⟨_, rfl⟩, ⟨_, rfl⟩, ⟨_, rfl⟩, ⟨_, rfl⟩, ⟨_, rfl⟩, ⟨_, rfl⟩, rfl, ⟨_, rfl⟩, ⟨_, rfl⟩, rfl⟩, ⟨rfl, rfl, rfl, rfl, rfl, rfl, rfl⟩, by exact Nat.le_refl 16, ldx⟩
end
section
/-- the end of a def's body that changes one object of the caller's, d -/
def EndsM (g : Heap) (d : Addr) (sub : List (Addr × Obj)) (P : Value → Obj → Prop) (v : Value) (s s' : Shared) : Prop :=
  ∃ L' m' news' o', s' = { s with heap := s'.heap, toks := s'.toks } ∧ Fr g L' s'.heap m' ∧ News g L' s'.heap news' ∧ (d, o') ∈ news' ∧ (∀ p ∈ sub, p ∈ news') ∧ P v o'
theorem EndsM.intro {g h' : Heap} {d : Addr} {o' : Obj} {sub news' : List (Addr × Obj)} {P : Value → Obj → Prop} {v : Value} {h₁ : Heap} {gs : Array GenState} {dr : Drawn} {tk₁ : Nat} {os : OsState} {L' : Addr} {m' : Str → Option Value} {tk : Nat}
    (F : Fr g L' h' m') (N : News g L' h' news') (hd : (d, o') ∈ news') (hs : ∀ p ∈ sub, p ∈ news') (hp : P v o') : EndsM g d sub P v ⟨h₁, gs, dr, tk₁, os⟩ ⟨h', gs, dr, tk, os⟩ :=
  ⟨L', m', news', o', rfl, F, N, hd, hs, hp⟩
def SpecM (w : World) (K : Frag) (f : Addr) (args : List Value) (d : Addr) (o : Obj) (sub : List (Addr × Obj)) (n : Nat) (P : Value → Obj → Prop) : Prop :=
  ∀ (dp un : Nat) (gd : Option (List Code)) (cn : Str) (cs : Scope) (a : Addr) (ccd : Value) (cl : List (Str × Addr)) (outer : List Env) (A₀ : Around) (base h₀ : Heap) (L : Addr) (m mg mb : Str → Option Value) (mean : ExcName → Option Value) (news : List (Addr × Obj)) (gn : Obj → List (Addr × Obj)) (s : Shared) (Q E : Value → Shared → Prop),
    Below A₀ base outer h₀ → Fr h₀ L s.heap m → K.In h₀ → News h₀ L s.heap news → Top lawQ lawLoose mean mg mb h₀ → cs.kind = .function → UpdF d o news gn → (∀ p ∈ sub, p ∈ news) → dp + n < recursionLimit → un + 8 * n < cLine →
    (∀ v o' h' tk', Fr h₀ L h' m → News h₀ L h' (gn o') → P v o' → Q v { s with heap := h', toks := tk' }) →
    wpAny (model PySem.Challenge.pw_pc0142_01 w) (ktrTop dp un gd cn cs L a ccd cl outer) (call (.ref f) args) Q E s
section
variable {w : World} {A₀ A : Around} {s : Shared} {base h₀ : Heap} {outer : List Env} {L d : Addr} {o : Obj} {m mg mb : Str → Option Value} {mean : ExcName → Option Value} {env : Env} {news sub : List (Addr × Obj)} {gn : Obj → List (Addr × Obj)} {K : Frag} {prog : Program}
  {Q E : Value → Shared → Prop} {P : Value → Obj → Prop} {name qual : Str} {params : Arguments} {body : List Stmt} {scope : Scope} {dV kV doc pm cdv ct oc : Value} {an od : Option Addr} {osl : Array (Option Value)} {f : Addr} {args : List Value} {binds : List (Str × Value)}
theorem UpdF.mem (hu : UpdF d o news gn) : (d, o) ∈ news := by
  obtain ⟨pre, post, rfl, -⟩ := hu.split
  exact List.mem_append.mpr (.inr (List.Mem.head _))
theorem ends_backM (F : Fr h₀ L s.heap m) (N : News h₀ L s.heap news) (hu : UpdF d o news gn) (hs : ∀ p ∈ sub, p ∈ news)
    (ret : ∀ v o' h' tk', Fr h₀ L h' m → News h₀ L h' (gn o') → P v o' → Q v { s with heap := h', toks := tk' })
    {v : Value} {s₁ s' : Shared} (hs₁ : ∃ h t, s₁ = { s with heap := h, toks := t }) (e : EndsM (hideAll s.heap (((d, o) :: sub).map (·.1))) d sub P v s₁ s') : Q v s' := by
  obtain ⟨L', m', news', o', e1, F', N', hd', hsub, hp⟩ := e
  obtain ⟨h, t, rfl⟩ := hs₁
  have e2 : s' = { s with heap := s'.heap, toks := s'.toks } := e1
  have hs2 : ∀ p ∈ (d, o) :: sub, p ∈ news := fun p hp => by
    rcases List.mem_cons.mp hp with rfl | hp
    · exact UpdF.mem hu
    · exact hs p hp
  have Ns : News h₀ L s.heap ((d, o) :: sub) := fun p hp => N p (hs2 p hp)
  have nm : ∀ b q, h₀.get? b = some q → b ∉ ((d, o) :: sub).map (·.1) := fun b q e h => by
    obtain ⟨p, hp, rfl⟩ := List.mem_map.mp h
    rw [(Ns p hp).2.2] at e; cases e
  have st : ∀ b q, h₀.get? b = some q → (hideAll s.heap (((d, o) :: sub).map (·.1))).get? b = some q := fun b q e => hideAll_get _ (F.keep b q e) (nm b q e)
  obtain ⟨oL, es, ep, hL, hLd, hLk, hLf⟩ := F.ns
  have nL : L ∉ ((d, o) :: sub).map (·.1) := fun q => by
    obtain ⟨p, hp, e⟩ := List.mem_map.mp q
    exact (Ns p hp).2.1 e
  have hLg := hideAll_get (((d, o) :: sub).map (·.1)) hL nL
  have hin : ∀ q ∈ news, q.1 ≠ d → q.1 ∈ ((d, o) :: sub).map (·.1) → q ∈ sub := fun q hq hqd hm => by
    obtain ⟨p, hp, e⟩ := List.mem_map.mp hm
    rcases List.mem_cons.mp hp with rfl | hp
    · exact absurd e.symm hqd
    · have a := (N q hq).1
      have b := (N p (hs p hp)).1
      rw [e, a] at b
      obtain ⟨q1, q2⟩ := q
      obtain ⟨p1, p2⟩ := p
      cases e; cases b; exact hp
  have old : ∀ q ∈ news, q.1 ≠ d → s'.heap.get? q.1 = some q.2 ∧ q.1 ≠ L ∧ h₀.get? q.1 = none := fun q hq hqd => by
    refine ⟨?_, (N q hq).2⟩
    by_cases hm : q.1 ∈ ((d, o) :: sub).map (·.1)
    · exact (N' q (hsub q (hin q hq hqd hm))).1
    · exact F'.keep _ _ (hideAll_get _ (N q hq).1 hm)
  rw [e2]
  refine ret v o' s'.heap s'.toks ⟨⟨oL, es, ep, F'.keep L oL hLg, hLd, hLk, hLf⟩, fun b q e => F'.keep b q (st b q e), F.above⟩ ?_ hp
  obtain ⟨pre, post, rfl, hg, h1, h2⟩ := hu.split
  rw [hg]
  intro q hq
  rcases List.mem_append.mp hq with hq | hq
  · exact old q (List.mem_append.mpr (.inl hq)) (h1 q hq)
  · rcases List.mem_cons.mp hq with rfl | hq
    · exact ⟨(N' _ hd').1, (N (d, o) (List.mem_append.mpr (.inr (List.Mem.head _)))).2⟩
    · exact old q (List.mem_append.mpr (.inr (List.mem_cons_of_mem _ hq))) (h2 q hq)
theorem enterM (B : Below A₀ base outer h₀) (F : Fr h₀ L s.heap m) (X₀ : K.In h₀) (N : News h₀ L s.heap news) (T : Top lawQ lawLoose mean mg mb h₀) (hA : A.frames = some (env :: outer)) (hf : env.frame = some L) (hke : env.scope.kind = .function)
    (hu : UpdF d o news gn) (hs : ∀ p ∈ sub, p ∈ news)
    (ho : K.lookup f = some ⟨oc, od, .func (fnOf name qual params body scope dV kV doc pm an cdv ct), osl⟩) (hcd : codeIn K cdv qual = true) (hroom : A.depth < recursionLimit)
    (hbind : BindsTo s (fnOf name qual params body scope dV kV doc pm an cdv ct) ⟨args, []⟩ binds) (hloc : ∀ y ∈ binds, scope.names.lookup y.1 = some .local)
    (ret : ∀ v o' h' tk', Fr h₀ L h' m → News h₀ L h' (gn o') → P v o' → Q v { s with heap := h', toks := tk' })
    (h : ∀ g L' h₁ gs dr tk os, Fr g L' h₁ (fun y => binds.reverse.lookup y) → News g L' h₁ ((d, o) :: sub) → Below A base (env :: outer) g → K.In g → Top lawQ lawLoose mean mg mb g →
      wpAny (model prog w) (A.deeper (envOf qual scope L' f cdv)) (execs body (envOf qual scope L' f cdv)) (fun fl s' => EndsM g d sub P (match fl with | .ret v => v | _ => .none) ⟨h₁, gs, dr, tk, os⟩ s') (fun _ _ => False) ⟨h₁, gs, dr, tk, os⟩)
    (hco : scope.isCoroutine = false) (hgen : scope.isGenerator = false) (hk : scope.kind = .function)
    (hcell : ∀ x ∈ scope.names, x.2 ≠ .cell) : wpAny (model prog w) A (call (.ref f) args) Q E s := by
  have Ns : News h₀ L s.heap ((d, o) :: sub) := fun p hp => N p (by
    rcases List.mem_cons.mp hp with rfl | hp
    · exact UpdF.mem hu
    · exact hs p hp)
  obtain ⟨FG, BG, st, _⟩ := groundX (R := fun _ _ => True) B F Ns hA hf hke
  refine wpAny_call (codeAny_call_def (fd := fnOf name qual params body scope dV kV doc pm an cdv ct) (body := body) (binds := binds) hroom ((X₀.keeps F.keep) _ _ ho) rfl (T.nolimit.keeps F.keep) (codeRec_of (X₀.keeps F.keep) hcd) rfl hbind hcell hloc (fun h₁ hns hk₁ => ?_) hco hgen hk)
  refine wpAny_mono (h (hideAll s.heap (((d, o) :: sub).map (·.1))) s.heap.objs.size h₁ s.gens s.drawn _ s.os ⟨hns, fun b q e => hk₁ b q (of_hideAll _ e), Nat.le_of_eq (hideAll_size _ _)⟩
    (fun p hp => ⟨hk₁ _ _ (Ns p hp).1, Nat.ne_of_lt (Heap.lt_size (Ns p hp).1), hideAll_none _ (List.mem_map_of_mem hp)⟩) BG (X₀.keeps fun b q e => st b q e) (T.keeps fun b q e => st b q e)) (fun fl s' hl => ?_) fun _ _ y => y.elim
  exact ends_backM F N hu hs ret ⟨h₁, _, rfl⟩ hl
end
theorem SpecM.use {w : World} {K : Frag} {f : Addr} {args : List Value} {d : Addr} {o : Obj} {sub news : List (Addr × Obj)} {gn : Obj → List (Addr × Obj)} {n : Nat} {P : Value → Obj → Prop} (C : SpecM w K f args d o sub n P)
    {dp un : Nat} {gd : Option (List Code)} {cn : Str} {cs : Scope} {a : Addr} {ccd : Value} {cl : List (Str × Addr)} {outer : List Env} {A₀ : Around} {base h₀ : Heap} {L : Addr} {m mg mb : Str → Option Value} {mean : ExcName → Option Value} {hp : Heap} {gs : Array GenState} {dr : Drawn} {tk : Nat} {os : OsState} {Q E : Value → Shared → Prop}
    (B : Below A₀ base outer h₀) (F : Fr h₀ L hp m) (X : K.In h₀) (N : News h₀ L hp news) (T : Top lawQ lawLoose mean mg mb h₀) (hk : cs.kind = .function) (hu : UpdF d o news gn) (hs : ∀ p ∈ sub, p ∈ news) (hd : dp + n < recursionLimit) (hl : un + 8 * n < cLine)
    (ret : ∀ v o' h' tk', Fr h₀ L h' m → News h₀ L h' (gn o') → P v o' → Q v ⟨h', gs, dr, tk', os⟩) :
    wpAny (model PySem.Challenge.pw_pc0142_01 w) (ktrTop dp un gd cn cs L a ccd cl outer) (call (.ref f) args) Q E ⟨hp, gs, dr, tk, os⟩ :=
  C _ _ _ _ _ _ _ _ _ _ _ _ _ _ _ _ _ _ _ ⟨hp, gs, dr, tk, os⟩ _ _ B F X N T hk hu hs hd hl ret
theorem putL_same {n : Str} {hsh : Int} {k v u : Value} : ∀ {es : List DictEntry}, getL n es = some (some u) → (putL n hsh k v es).length = es.length := by
  intro es h
  have key : ∀ (es : List DictEntry), (es.find? (·.key.isStr n)).isSome = true → (putL n hsh k v es).length = es.length := by
    intro es
    induction es with
    | nil => intro h; cases h
    | cons e r ih =>
      intro h
      unfold putL
      rw [List.find?_cons] at h
      by_cases hk : e.key.isStr n = true
      · rw [if_pos hk]; rfl
      · rw [if_neg hk]
        simp only [hk] at h
        rw [List.length_cons, List.length_cons, ih h]
  refine key es ?_
  unfold getL at h
  split at h
  · rename_i e he; rw [he]; rfl
  · split at h <;> cases h
theorem SpecM.useO {w : World} {K : Frag} {f : Addr} {args : List Value} {x d C₀ : Addr} {es : List DictEntry} {k : Nat} {sub news : List (Addr × Obj)} {gn : Obj → List (Addr × Obj)} {n : Nat} {P : Value → Obj → Prop}
    {dp un : Nat} {gd : Option (List Code)} {cn : Str} {cs : Scope} {a : Addr} {ccd : Value} {cl : List (Str × Addr)} {outer : List Env} {A₀ : Around} {base h₀ : Heap} {L : Addr} {m mg mb : Str → Option Value} {mean : ExcName → Option Value} {hp : Heap} {gs : Array GenState} {dr : Drawn} {tk : Nat} {os : OsState} {Q E : Value → Shared → Prop}
    (B : Below A₀ base outer h₀) (F : Fr h₀ L hp m) (X : K.In h₀) (N : News h₀ L hp news) (T : Top lawQ lawLoose mean mg mb h₀) (_ : (x, instObj C₀ d) ∈ news) (_ : (d, dictOf es k) ∈ news)
    (C : SpecM w K f (.ref x :: args) d (dictOf es k) sub n P) (hk : cs.kind = .function) (hu : UpdF d (dictOf es k) news gn) (hs : ∀ p ∈ sub, p ∈ news) (hd : dp + n < recursionLimit) (hl : un + 8 * n < cLine)
    (ret : ∀ v o' h' tk', Fr h₀ L h' m → News h₀ L h' (gn o') → P v o' → Q v ⟨h', gs, dr, tk', os⟩) :
    wpAny (model PySem.Challenge.pw_pc0142_01 w) (ktrTop dp un gd cn cs L a ccd cl outer) (call (.ref f) (.ref x :: args)) Q E ⟨hp, gs, dr, tk, os⟩ :=
  C _ _ _ _ _ _ _ _ _ _ _ _ _ _ _ _ _ _ _ ⟨hp, gs, dr, tk, os⟩ _ _ B F X N T hk hu hs hd hl ret
end
theorem wd51 : True := by
  k_with "my some" => (first | assumption | exact isSome_of (by assumption) | (rw [getL_putL_eq]; rfl) | (rw [getL_putL_ne (by decide)]; k_extra "my some"))
  k_with "my has" => (first | assumption | exact getL_putL_eq | (rw [getL_putL_ne (by decide)]; k_extra "my has"))
  k_with "my room" => (first | exact Nat.le_trans (by assumption) (by decide) | (refine' Nat.le_trans (Nat.le_of_eq (putL_same ?hhq616)) ?rrq616; (case hhq616 => k_extra "my has"); (case rrq616 => k_extra "my room")))
  k_with "my small" => (first | assumption | (refine' Nat.le_trans (Nat.le_of_eq (putL_same ?hhq617)) ?rrq617; (case hhq617 => k_extra "my has"); (case rrq617 => k_extra "my small")))
  k_with "mine setAttr ref" => ((k_here; k_dflt (refine' set_dict ?k1 ?k2 ?k3 ?k4 ?k5 ?k6q618 ?k7q618 ?k8q618 ?k9q618 ?k10q618 ?k11q618 ?k12q618 ?k13q618 ?_; (case k1 => k_asm); (case k2 => k_asm); (case k3 => k_asm); (case k4 => k_inst); (case k5 => exact rfl); (case k6q618 => k_is); (case k7q618 => k_is); (case k8q618 => k_is); (case k9q618 => k_is); (case k10q618 => k_extra "my some"); (case k11q618 => exact rfl); (case k12q618 => k_upd); (case k13q618 => k_extra "my room"); k_whole; intro h' F' N'; (try k_sweep))))
  k_with "my get" => (first | assumption | exact getL_putL_eq | (rw [getL_putL_ne (by decide)]; k_extra "my get"))
  trivial
section
def OrdPost (seen : Int) (plain : Bool) (point : Str) (nines behind : Int) (last : Str) (v : Value) (o' : Obj) : Prop :=
  v = .none ∧ ∃ es' n', o' = dictOf es' n' ∧ OrderIs es' seen plain point nines behind last ∧ NoMeth es' ∧ es'.length ≤ 16
theorem wd52 : True := by
  k_with "my ord" => (exact ⟨⟨_, by k_extra "my get"⟩, by k_extra "my get", ⟨_, by k_extra "my get"⟩, ⟨_, by k_extra "my get"⟩, ⟨_, by k_extra "my get"⟩, ⟨_, by k_extra "my get"⟩, ⟨_, by k_extra "my get"⟩, ⟨_, by k_extra "my get"⟩, ⟨_, by k_extra "my get"⟩, by k_extra "my get", ⟨_, by k_extra "my get"⟩, ⟨_, by k_extra "my get"⟩, by k_extra "my get"⟩)
  k_with "my nom" => (exact ⟨by k_extra "my get", by k_extra "my get", by k_extra "my get", by k_extra "my get", by k_extra "my get", by k_extra "my get", by k_extra "my get"⟩)
  trivial
theorem add_behind_spec (w : World) (ox od : Addr) (es : List DictEntry) (n : Nat) (tc : Tok) {seen : Int} {plain : Bool} {point last : Str} {nines behind : Int} (c : Int) (hO : OrderIs es seen plain point nines behind last) (hM : NoMeth es) (hl : es.length ≤ 16) (hp : point = Str.ofString "" ∨ point = Str.ofString "V") (hxo : ¬ (@Eq Nat od ox)) :
    SpecM w (hd.heap_1 w.params) 382 [.ref ox, .int c tc, .bool false] od (dictOf es n) [(ox, instObj 476 od)] 1 (OrdPost seen plain point nines (if point = Str.ofString "" then behind else behind + c) last) := by
  obtain ⟨⟨t1, g1⟩, g2, ⟨t3, g3⟩, ⟨t4, g4⟩, ⟨t5, g5⟩, ⟨t6, g6⟩, ⟨t7, g7⟩, ⟨t8, g8⟩, ⟨t9, g9⟩, g10, ⟨t11, g11⟩, ⟨t12, g12⟩, g13⟩ := hO
  obtain ⟨m1, m2, m3, m4, m5, m6, m7⟩ := hM
  unfold SpecM
  intro dp un gd cn cs a ccd cl outer A₀ base h₀ L m mg mb mean news gn s Q E B F X N T hk hu hs hroom hun ret
  refine enterM (binds := [(Str.ofString "self", .ref ox), (Str.ofString "count", .int c tc), (Str.ofString "is_loose", .bool false)]) B F X N T rfl rfl hk hu hs (by k_is) (by k_is) (show dp < recursionLimit from Nat.lt_of_le_of_lt (Nat.le_add_right _ _) hroom) (BindsTo.of_eq rfl) (locs rfl) ret ?_ rfl rfl rfl (by decide)
  clear B F X N T ret hs hu
  intro g L' h₁ gs5 dr5 tk os5 F' N' B' X' T'
  (try dsimp only)
  show wpAny _ _ _ _ _ _
  k_fold
  have hxo2 : ¬ (@Eq Nat ox od) := fun e => hxo e.symm
  rcases hp with rfl | rfl
  all_goals k_extra "my steps"
  · exact EndsM.intro (by k_asm) (by k_asm) (by k_mem) (by kcj_all) ⟨rfl, _, _, rfl, ⟨⟨_, g1⟩, g2, ⟨_, g3⟩, ⟨_, g4⟩, ⟨_, g5⟩, ⟨_, g6⟩, ⟨_, g7⟩, ⟨_, g8⟩, ⟨_, g9⟩, g10, ⟨_, g11⟩, ⟨_, g12⟩, g13⟩, ⟨m1, m2, m3, m4, m5, m6, m7⟩, hl⟩
  · exact EndsM.intro (by k_asm) (by k_asm) (by k_mem) (by kcj_all) ⟨rfl, _, _, rfl, by k_extra "my ord", by k_extra "my nom", by k_extra "my small"⟩
end
theorem wd53 : True := by
  k_with_none
  k_with "my fold" => (((first | (with_reducible show wpAny _ _ (exec (PySem.Stmt.Assign _ _ _) _) _ _ _) | (with_reducible show wpAny _ _ (exec (PySem.Stmt.Return _ _) _) _ _ _) | (with_reducible show wpAny _ _ (exec (PySem.Stmt.If _ _ _ _) _) _ _ _) | (with_reducible show wpAny _ _ (exec (PySem.Stmt.Expr _ _) _) _ _ _) | (with_reducible show wpAny _ _ (exec (PySem.Stmt.AugAssign _ _ _ _) _) _ _ _) | (with_reducible show wpAny _ _ (eval (PySem.Expr.BinOp _ _ _ _) _) _ _ _) | (with_reducible show wpAny _ _ (eval (PySem.Expr.Call _ _ _ _) _) _ _ _)); (fail_if_success (fail_if_success k_fold)); refine (let qk := _; keepQ qk ?_)))
  k_with "my get" => (assumption)
  k_with "mine call type:range" => ((k_here; (rename Fr _ _ _ _ => F'); (rename News _ _ _ _ => N'); (with_unfolding_all refine range1_rows F' N' ?_; intro _ _ _ _ _ _ _ _ _)))
  k_with "my steps" => (repeat' (first | ((fail_if_success (fail_if_success k_unfold)); (try dsimp only); refine (?_ : wpAny _ _ _ _ _ _)) | (k_unfold; (try dsimp only)) | k_extra "my fold" | ((fail_if_success (with_reducible show wpAny _ _ (pyIter _) (fun it s₂ => LoopAtV _ _ _ _ _ _ _ _ _ it s₂) _ _)); (fail_if_success (with_reducible show wpAny _ _ (pyIter _) (fun it s₂ => PairAt3 _ _ _ _ _ _ _ _ _ _ it s₂) _ _)); (fail_if_success (with_reducible show LoopStep3 _ _ _ _ _ _ _ _ _ _)); (fail_if_success (with_reducible show InvEndN _ _ _ _ _ _ _)); (fail_if_success (with_reducible show Ends _ _ _ _ _ _)); first | walk1 | (dsimp only; walk1) | (dsimp only; k_unfold; (try dsimp only)))))
  k_with "my plain steps" => (repeat' (first | ((fail_if_success (fail_if_success k_unfold)); (try dsimp only); refine (?_ : wpAny _ _ _ _ _ _)) | (k_unfold; (try dsimp only)) | ((fail_if_success (with_reducible show wpAny _ _ (pyIter _) (fun it s₂ => LoopAtV _ _ _ _ _ _ _ _ _ it s₂) _ _)); (fail_if_success (with_reducible show wpAny _ _ (pyIter _) (fun it s₂ => PairAt3 _ _ _ _ _ _ _ _ _ _ it s₂) _ _)); (fail_if_success (with_reducible show LoopStep3 _ _ _ _ _ _ _ _ _ _)); (fail_if_success (with_reducible show InvEndN _ _ _ _ _ _ _)); (fail_if_success (with_reducible show Ends _ _ _ _ _ _)); first | walk1 | (dsimp only; walk1) | (dsimp only; k_unfold; (try dsimp only)))))
  k_with "my bytes" => (first | exact all48 (by assumption) | (refine all_cons (by decide) ?_; k_extra "my bytes") | (refine all_snoc (by decide) ?_; k_extra "my bytes"))
  k_with "my size" => (first | (first | lia | omega) | ((try simp only [List.length_map, List.length_cons, List.length_append, List.length_nil, List.length_set, List.length_reverse, lits_length, figs_length, stepKs_length]); (first | lia | omega)))
  k_with "mine call type:bytes" => ((k_here; (with_reducible show wpAny _ _ (call (Value.type "bytes") [Value.ref _]) _ _ _); k_dflt (refine' bytesOf_K ?Fq629 ?Nq629 ?mq629 ?iq629 ?rq629 ?zq629 ?hq629 ?_; (case Fq629 => k_asm); (case Nq629 => k_asm); (case mq629 => k_mem); (case iq629 => assumption); (case rq629 => k_extra "my bytes"); (case zq629 => k_extra "my size"); (case hq629 => exact rfl); k_whole); intro h' t' k' F' N'; (try k_sweep)))
  k_with "my bytes" => ((refine all_set (u8_in _) ?_; k_extra "my bytes"))
  k_with "my byte at" => ((refine fig_at (by assumption) ?_; k_extra "my size"))
  k_with "mine subscriptTail" => ((k_here; (with_reducible show wpAny _ _ (subscriptTail _ _ (Value.bytes _ _) (Value.int _ _)) _ _ _); k_dflt (refine' bytesItem_K ?aq632 ?bq632 ?_ ?hsq632 ?htq632; (case aq632 => k_extra "my byte at"); (case bq632 => decide); (case hsq632 => with_unfolding_all rfl); (case htq632 => intro _; with_unfolding_all rfl))))
  k_with "my index" => (first | (first | lia | omega) | decide | assumption)
  k_with "mine compareOp In" => ((k_here; (with_reducible show wpAny _ _ (compareOp CmpOp.In (Value.int _ _) (Value.bytes _ _)) _ _ _); k_dflt (refine' in_bytes ?aq634 ?bq634 ?_; (case aq634 => (first | lia | omega)); (case bq634 => (first | lia | omega)))))
  k_with "mine getMethod" => ((k_here; (with_reducible show wpAny _ _ (getMethod (Value.bytes _ _) "index" _) _ _ _); refine index_method ?_))
  k_with "mine call builtin:bytes.index" => ((k_here; (with_reducible show wpAny _ _ (call (Value.builtin "bytes.index") [Value.bytes _ _, Value.int _ _]) _ _ _); k_dflt (refine' bytes_index _ ?aq636 ?bq636 ?cq636 ?dq636 ?_; (case aq636 => (first | lia | omega)); (case bq636 => (first | lia | omega)); (case cq636 => decide); (case dq636 => assumption)); intro _ _; (try dsimp only)))
  k_with "mine subscriptTail" => ((k_here; (with_reducible show wpAny _ _ (subscriptTail _ _ (Value.bytes (byteArr _) _) (Value.int _ _)) _ _ _); k_dflt (refine' bytesInt_K ?aq637 ?bq637 ?rq637 ?zq637 ?_ ?hsq637 ?htq637; (case aq637 => (first | lia | omega)); (case bq637 => assumption); (case rq637 => first | assumption | k_extra "my bytes"); (case zq637 => k_extra "my size"); (case hsq637 => with_unfolding_all rfl); (case htq637 => intro _; with_unfolding_all rfl)); intro _ _; (try dsimp only)))
  k_with "my pick" => ((with_reducible first | exact kmk_upto (by l_ints) (by (first | lia | omega)) | exact kmk_from (by l_ints) (by (first | lia | omega)) | exact kmk_upto_neg (by l_ints) (by (first | lia | omega)) | exact kmk_from_neg (by l_ints) (by (first | lia | omega))))
  k_with "mine subscriptTail Name Slice ref ref" => ((k_here; (with_reducible show wpAny _ _ (subscriptTail _ (PySem.Expr.Slice _ _ none _) (Value.ref _) (Value.ref _)) _ _ _); k_dflt (refine' kmk_slice_ints ?Fq639 ?Nq639 ?lq639 ?pq639 ?qq639 ?iq639 ?mq639 ?cq639 ?_ ?sq639 ?tq639 ?zq639; (case Fq639 => k_asm); (case Nq639 => k_asm); (case lq639 => kmk_list); (case pq639 => kmk_part); (case qq639 => kmk_part); (case iq639 => l_ints); (case mq639 => k_extra "my pick"); (case cq639 => kmk_len); (case sq639 => with_unfolding_all rfl); (case tq639 => kmk_pure); (case zq639 => kmk_size)); intro D' ws' h' F' N' l1 hI' hC' hL'; (try k_lt l1); (try k_sweep)))
  k_with "my ints" => (first | l_ints | exact IntsAre.cons _ _ IntsAre.nil | exact IntsAre.cons _ _ (IntsAre.cons _ _ IntsAre.nil))
  k_with "mine binaryOp Add ref ref" => ((k_here; (with_reducible show wpAny _ _ (binaryOp _ (Value.ref _) (Value.ref _)) _ _ _); k_dflt (refine' kmk_add_ints ?Fq641 ?Nq641 ?aq641 ?bq641 ?iq641 ?jq641 ?_ ?zq641; (case Fq641 => k_asm); (case Nq641 => k_asm); (case aq641 => kmk_list); (case bq641 => kmk_list); (case iq641 => k_extra "my ints"); (case jq641 => k_extra "my ints"); (case zq641 => first | ((simp only [sizeLine_eq]); k_extra "my size") | kmk_sum)); intro D' ws' h' F' N' l1 hI'; (try k_lt l1); (try k_sweep)))
  k_with "mine call builtin:len" => ((k_here; (with_reducible show wpAny _ _ (call (Value.builtin "len") [Value.bytes (byteArr _) _]) _ _ _); k_dflt (refine' len_byteArr ?zq642 ?_; (case zq642 => k_extra "my size")); intro _ _; (try dsimp only)))
  k_with "mine call builtin:ord" => ((k_here; (with_reducible show wpAny _ _ (call (Value.builtin "ord") [Value.str _ _]) _ _ _); refine ord_of_char ?_; (try dsimp only)))
  k_with "my text slice" => (((with_reducible rename Fr _ _ _ _ => F'); (with_reducible rename News _ _ _ _ => N'); first | ((with_reducible show wpAny _ _ (subscriptTail _ (Expr.Slice none (some _) none _) _ _) _ _ _); (refine slice_strN_ns_len (hsz := ?hszq644) (s := ⟨_, _, _, _, _⟩) F' N' ?_); (case hszq644 => rw [sizeLine_eq]; (first | lia | omega))) | ((with_reducible show wpAny _ _ (subscriptTail _ (Expr.Slice (some _) none none _) _ _) _ _ _); (refine slice_strN_sn_len (hsz := ?hszq644) (s := ⟨_, _, _, _, _⟩) F' N' ?_); (case hszq644 => rw [sizeLine_eq]; (first | lia | omega)))))
  k_with "my units" => (((try simp only [units_in1, units_deeper, Around.mark_units]); (try dsimp only [ktrTop]); (first | lia | omega)))
  k_with "my tail" => ((first | assumption | (refine' And.right ?_; first | assumption | (refine' And.right ?_; first | assumption | (refine' And.right ?_; first | assumption | (refine' And.right ?_; first | assumption | (refine' And.right ?_; first | assumption | (refine' And.right ?_; first | assumption | (refine' And.right ?_; first | assumption | (refine' And.right ?_; first | assumption | (refine' And.right ?_; assumption)))))))))))
  k_with "my conj" => (first | k_extra "my tail" | (refine' And.left ?_; k_extra "my tail") | (refine' And.left ?_; refine' And.left ?_; k_extra "my tail") | (refine' And.right ?_; refine' And.left ?_; k_extra "my tail"))
  k_with "my ne" => ((refine neN ?_; (try dsimp only); first | (refine' Nat.ne_of_lt ?_; k_extra "my conj") | (refine' Nat.ne_of_gt ?_; k_extra "my conj") | k_extra "my conj" | (refine' Ne.symm ?_; k_extra "my conj") | (first | lia | omega)))
  k_with "my sides" => (((case k1 => k_asm); (case k2 => k_asm); (case k3 => k_asm); (case k4 => k_asm); (case k5 => k_asm); (case kK => first | assumption | exact rfl); (case ks => kcj_all); (case kd => first | ((try simp only [depth_mark, depth_under_make, depth_under_kw, depth_in1, depth_deeper]); (try dsimp only [ktrTop]); first | (refine' room3 ?hhq649 ?llq649; (case hhq649 => assumption); (case llq649 => exact Nat.le_of_ble_eq_true rfl)) | (first | lia | omega)) | (with_unfolding_all exact Nat.le_of_ble_eq_true rfl)); (case ku => first | ((try simp only [units_in1, units_deeper, Around.mark_units]); (try dsimp only [ktrTop]); first | (refine' room3 ?hhq649 ?llq649; (case hhq649 => assumption); (case llq649 => exact Nat.le_of_ble_eq_true rfl)) | (first | lia | omega)) | (with_unfolding_all exact Nat.le_of_ble_eq_true rfl))))
  k_with "my some" => (first | assumption | exact isSome_of (by assumption) | (rw [getL_putL_eq]; rfl) | (rw [getL_putL_ne (by decide)]; k_extra "my some"))
  k_with "my has" => (first | assumption | exact getL_putL_eq | (rw [getL_putL_ne (by decide)]; k_extra "my has"))
  k_with "my room" => (first | exact Nat.le_trans (by assumption) (by decide) | (refine' Nat.le_trans (Nat.le_of_eq (putL_same ?hhq652)) ?rrq652; (case hhq652 => k_extra "my has"); (case rrq652 => k_extra "my room")))
  k_with "my small" => (first | assumption | (refine' Nat.le_trans (Nat.le_of_eq (putL_same ?hhq653)) ?rrq653; (case hhq653 => k_extra "my has"); (case rrq653 => k_extra "my small")))
  k_with "mine setAttr ref" => ((k_here; k_dflt (refine' set_dict ?k1 ?k2 ?k3 ?k4 ?k5 ?k6q654 ?k7q654 ?k8q654 ?k9q654 ?k10q654 ?k11q654 ?k12q654 ?k13q654 ?_; (case k1 => k_asm); (case k2 => k_asm); (case k3 => k_asm); (case k4 => k_inst); (case k5 => exact rfl); (case k6q654 => k_is); (case k7q654 => k_is); (case k8q654 => k_is); (case k9q654 => k_is); (case k10q654 => k_extra "my some"); (case k11q654 => exact rfl); (case k12q654 => k_upd); (case k13q654 => k_extra "my room"); k_whole; intro h' F' N'; (try k_sweep))))
  k_with "my get" => (first | assumption | exact getL_putL_eq | (rw [getL_putL_ne (by decide)]; k_extra "my get"))
  k_with "my sideA" => (((case k1 => k_asm); (case k2 => k_asm); (case k3 => k_asm); (case k4 => k_asm); (case k5 => k_asm); (case i1 => k_mem); (case i2 => k_mem)))
  k_with "my sideB" => (((case kK => first | assumption | exact rfl); (case kU => k_updF); (case ks => kcj_all); (case kd => first | ((try simp only [depth_mark, depth_under_make, depth_under_kw, depth_in1, depth_deeper]); (try dsimp only [ktrTop]); first | (refine' room3 ?hhq657 ?llq657; (case hhq657 => assumption); (case llq657 => exact Nat.le_of_ble_eq_true rfl)) | (first | lia | omega)) | (with_unfolding_all exact Nat.le_of_ble_eq_true rfl)); (case ku => first | ((try simp only [units_in1, units_deeper, Around.mark_units]); (try dsimp only [ktrTop]); first | (refine' room3 ?hhq657 ?llq657; (case hhq657 => assumption); (case llq657 => exact Nat.le_of_ble_eq_true rfl)) | (first | lia | omega)) | (with_unfolding_all exact Nat.le_of_ble_eq_true rfl)); intro v' o' h' tk' F' N' hP'; (obtain ⟨e1', es', n', e2', hO', hM', hl'⟩ := hP'); subst e1'; subst e2'; (obtain ⟨⟨_, _⟩, _, ⟨_, _⟩, ⟨_, _⟩, ⟨_, _⟩, ⟨_, _⟩, ⟨_, _⟩, ⟨_, _⟩, ⟨_, _⟩, _, ⟨_, _⟩, ⟨_, _⟩, _⟩ := hO'); (obtain ⟨_, _, _, _, _, _, _⟩ := hM'); (try dsimp only at N'); (try k_sweep); (try dsimp only)))
  k_with "mine call ref" => ((k_here; (with_reducible show wpAny _ _ (call (Value.ref 382) _) _ _ _); k_dflt (refine' SpecM.useO ?k1 ?k2 ?k3 ?k4 ?k5 ?i1 ?i2 (add_behind_spec _ _ _ _ _ _ _ ?c0q658 ?c1q658 ?c2q658 ?c3q658 ?c4q658) ?kK ?kU ?ks ?kd ?ku ?_; k_extra "my sideA"; (case c0q658 => exact ⟨⟨_, by k_extra "my get"⟩, by k_extra "my get", ⟨_, by k_extra "my get"⟩, ⟨_, by k_extra "my get"⟩, ⟨_, by k_extra "my get"⟩, ⟨_, by k_extra "my get"⟩, ⟨_, by k_extra "my get"⟩, ⟨_, by k_extra "my get"⟩, ⟨_, by k_extra "my get"⟩, by k_extra "my get", ⟨_, by k_extra "my get"⟩, ⟨_, by k_extra "my get"⟩, by k_extra "my get"⟩); (case c1q658 => exact ⟨by k_extra "my get", by k_extra "my get", by k_extra "my get", by k_extra "my get", by k_extra "my get", by k_extra "my get", by k_extra "my get"⟩); (case c2q658 => k_extra "my small"); (case c3q658 => assumption); (case c4q658 => (first | assumption | (first | lia | omega))); k_extra "my sideB")))
  trivial
section
theorem wd54 : True := by
  k_with "my ord" => (exact ⟨⟨_, by k_extra "my get"⟩, by k_extra "my get", ⟨_, by k_extra "my get"⟩, ⟨_, by k_extra "my get"⟩, ⟨_, by k_extra "my get"⟩, ⟨_, by k_extra "my get"⟩, ⟨_, by k_extra "my get"⟩, ⟨_, by k_extra "my get"⟩, ⟨_, by k_extra "my get"⟩, by k_extra "my get", ⟨_, by k_extra "my get"⟩, ⟨_, by k_extra "my get"⟩, by k_extra "my get"⟩)
  k_with "my nom" => (exact ⟨by k_extra "my get", by k_extra "my get", by k_extra "my get", by k_extra "my get", by k_extra "my get", by k_extra "my get", by k_extra "my get"⟩)
  trivial
theorem take_nine_spec (w : World) (ox od : Addr) (es : List DictEntry) (n : Nat) (sx sd : Addr) (ss : List DictEntry) (k : Nat) {seen : Int} {plain : Bool} {point last : Str} {nines behind c pl : Int} {sn : Str} (hO : OrderIs es seen plain point nines behind last) (hM : NoMeth es) (hl : es.length ≤ 16) (hp : point = Str.ofString "" ∨ point = Str.ofString "V") (hS : SignIs ss sn c pl) (hxo : ¬ (@Eq Nat od ox)) (hxs : ¬ (@Eq Nat od sx)) (hxd : ¬ (@Eq Nat od sd)) :
    SpecM w (hd.heap_1 w.params) 389 [.ref ox, .ref sx] od (dictOf es n) [(ox, instObj 476 od), (sx, instObj 319 sd), (sd, dictOf ss k)] 3 (OrdPost seen plain point (nines + c) (if point = Str.ofString "" then behind else behind + c) last) := by
  obtain ⟨⟨t1, g1⟩, g2, ⟨t3, g3⟩, ⟨t4, g4⟩, ⟨t5, g5⟩, ⟨t6, g6⟩, ⟨t7, g7⟩, ⟨t8, g8⟩, ⟨t9, g9⟩, g10, ⟨t11, g11⟩, ⟨t12, g12⟩, g13⟩ := hO
  obtain ⟨m1, m2, m3, m4, m5, m6, m7⟩ := hM
  obtain ⟨⟨u1, s1⟩, ⟨u2, s2⟩, ⟨u3, s3⟩⟩ := hS
  unfold SpecM
  intro dp un gd cn cs a ccd cl outer A₀ base h₀ L m mg mb mean news gn s Q E B F X N T hk hu hs hroom hun ret
  refine enterM (binds := [(Str.ofString "self", .ref ox), (Str.ofString "one", .ref sx)]) B F X N T rfl rfl hk hu hs (by k_is) (by k_is) (show dp < recursionLimit from Nat.lt_of_le_of_lt (Nat.le_add_right _ _) hroom) (BindsTo.of_eq rfl) (locs rfl) ret ?_ rfl rfl rfl (by decide)
  clear B F X N T ret hs hu
  intro g L' h₁ gs5 dr5 tk os5 F' N' B' X' T'
  (try dsimp only)
  show wpAny _ _ _ _ _ _
  k_fold
  have hxo2 : ¬ (@Eq Nat ox od) := fun e => hxo e.symm
  have hxs2 : ¬ (@Eq Nat sx od) := fun e => hxs e.symm
  have hxd2 : ¬ (@Eq Nat sd od) := fun e => hxd e.symm
  k_extra "my steps"
  show EndsM _ _ _ _ _ _ _
  exact EndsM.intro (by k_asm) (by k_asm) (by k_mem) (by kcj_all) ⟨rfl, _, _, rfl, by k_extra "my ord", by k_extra "my nom", by k_extra "my small"⟩
theorem take_point_spec (w : World) (ox od : Addr) (es : List DictEntry) (n : Nat) (sx sd : Addr) (ss : List DictEntry) (k : Nat) {seen : Int} {plain : Bool} {point last : Str} {nines behind c pl : Int} {sn : Str} (hO : OrderIs es seen plain point nines behind last) (hM : NoMeth es) (hl : es.length ≤ 16) (hp : point = Str.ofString "") (hsn : sn = Str.ofString "V") (hS : SignIs ss sn c pl) (hxo : ¬ (@Eq Nat od ox)) (hxs : ¬ (@Eq Nat od sx)) (hxd : ¬ (@Eq Nat od sd)) :
    SpecM w (hd.heap_1 w.params) 403 [.ref ox, .ref sx] od (dictOf es n) [(ox, instObj 476 od), (sx, instObj 319 sd), (sd, dictOf ss k)] 3 (OrdPost seen plain sn nines behind last) := by
  obtain ⟨⟨t1, g1⟩, g2, ⟨t3, g3⟩, ⟨t4, g4⟩, ⟨t5, g5⟩, ⟨t6, g6⟩, ⟨t7, g7⟩, ⟨t8, g8⟩, ⟨t9, g9⟩, g10, ⟨t11, g11⟩, ⟨t12, g12⟩, g13⟩ := hO
  obtain ⟨m1, m2, m3, m4, m5, m6, m7⟩ := hM
  obtain ⟨⟨u1, s1⟩, ⟨u2, s2⟩, ⟨u3, s3⟩⟩ := hS
  subst hp
  subst hsn
  unfold SpecM
  intro dp un gd cn cs a ccd cl outer A₀ base h₀ L m mg mb mean news gn s Q E B F X N T hk hu hs hroom hun ret
  refine enterM (binds := [(Str.ofString "self", .ref ox), (Str.ofString "one", .ref sx)]) B F X N T rfl rfl hk hu hs (by k_is) (by k_is) (show dp < recursionLimit from Nat.lt_of_le_of_lt (Nat.le_add_right _ _) hroom) (BindsTo.of_eq rfl) (locs rfl) ret ?_ rfl rfl rfl (by decide)
  clear B F X N T ret hs hu
  intro g L' h₁ gs5 dr5 tk os5 F' N' B' X' T'
  (try dsimp only)
  show wpAny _ _ _ _ _ _
  k_fold
  have hxo2 : ¬ (@Eq Nat ox od) := fun e => hxo e.symm
  have hxs2 : ¬ (@Eq Nat sx od) := fun e => hxs e.symm
  have hxd2 : ¬ (@Eq Nat sd od) := fun e => hxd e.symm
  k_extra "my steps"
  show EndsM _ _ _ _ _ _ _
  exact EndsM.intro (by k_asm) (by k_asm) (by k_mem) (by kcj_all) ⟨rfl, _, _, rfl, by k_extra "my ord", by k_extra "my nom", by k_extra "my small"⟩
end
theorem wd55 : True := by
  k_with_none
  k_with "my fold" => (((first | (with_reducible show wpAny _ _ (exec (PySem.Stmt.Assign _ _ _) _) _ _ _) | (with_reducible show wpAny _ _ (exec (PySem.Stmt.Return _ _) _) _ _ _) | (with_reducible show wpAny _ _ (exec (PySem.Stmt.If _ _ _ _) _) _ _ _) | (with_reducible show wpAny _ _ (exec (PySem.Stmt.Expr _ _) _) _ _ _) | (with_reducible show wpAny _ _ (exec (PySem.Stmt.AugAssign _ _ _ _) _) _ _ _) | (with_reducible show wpAny _ _ (eval (PySem.Expr.BinOp _ _ _ _) _) _ _ _) | (with_reducible show wpAny _ _ (eval (PySem.Expr.Call _ _ _ _) _) _ _ _)); (fail_if_success (fail_if_success k_fold)); refine (let qk := _; keepQ qk ?_)))
  k_with "my get" => (assumption)
  k_with "mine call type:range" => ((k_here; (rename Fr _ _ _ _ => F'); (rename News _ _ _ _ => N'); (with_unfolding_all refine range1_rows F' N' ?_; intro _ _ _ _ _ _ _ _ _)))
  k_with "my steps" => (repeat' (first | ((fail_if_success (fail_if_success k_unfold)); (try dsimp only); refine (?_ : wpAny _ _ _ _ _ _)) | (k_unfold; (try dsimp only)) | k_extra "my fold" | ((fail_if_success (with_reducible show wpAny _ _ (pyIter _) (fun it s₂ => LoopAtV _ _ _ _ _ _ _ _ _ it s₂) _ _)); (fail_if_success (with_reducible show wpAny _ _ (pyIter _) (fun it s₂ => PairAt3 _ _ _ _ _ _ _ _ _ _ it s₂) _ _)); (fail_if_success (with_reducible show LoopStep3 _ _ _ _ _ _ _ _ _ _)); (fail_if_success (with_reducible show InvEndN _ _ _ _ _ _ _)); (fail_if_success (with_reducible show Ends _ _ _ _ _ _)); first | walk1 | (dsimp only; walk1) | (dsimp only; k_unfold; (try dsimp only)))))
  k_with "my plain steps" => (repeat' (first | ((fail_if_success (fail_if_success k_unfold)); (try dsimp only); refine (?_ : wpAny _ _ _ _ _ _)) | (k_unfold; (try dsimp only)) | ((fail_if_success (with_reducible show wpAny _ _ (pyIter _) (fun it s₂ => LoopAtV _ _ _ _ _ _ _ _ _ it s₂) _ _)); (fail_if_success (with_reducible show wpAny _ _ (pyIter _) (fun it s₂ => PairAt3 _ _ _ _ _ _ _ _ _ _ it s₂) _ _)); (fail_if_success (with_reducible show LoopStep3 _ _ _ _ _ _ _ _ _ _)); (fail_if_success (with_reducible show InvEndN _ _ _ _ _ _ _)); (fail_if_success (with_reducible show Ends _ _ _ _ _ _)); first | walk1 | (dsimp only; walk1) | (dsimp only; k_unfold; (try dsimp only)))))
  k_with "my bytes" => (first | exact all48 (by assumption) | (refine all_cons (by decide) ?_; k_extra "my bytes") | (refine all_snoc (by decide) ?_; k_extra "my bytes"))
  k_with "my size" => (first | (first | lia | omega) | ((try simp only [List.length_map, List.length_cons, List.length_append, List.length_nil, List.length_set, List.length_reverse, lits_length, figs_length, stepKs_length]); (first | lia | omega)))
  k_with "mine call type:bytes" => ((k_here; (with_reducible show wpAny _ _ (call (Value.type "bytes") [Value.ref _]) _ _ _); k_dflt (refine' bytesOf_K ?Fq668 ?Nq668 ?mq668 ?iq668 ?rq668 ?zq668 ?hq668 ?_; (case Fq668 => k_asm); (case Nq668 => k_asm); (case mq668 => k_mem); (case iq668 => assumption); (case rq668 => k_extra "my bytes"); (case zq668 => k_extra "my size"); (case hq668 => exact rfl); k_whole); intro h' t' k' F' N'; (try k_sweep)))
  k_with "my bytes" => ((refine all_set (u8_in _) ?_; k_extra "my bytes"))
  k_with "my byte at" => ((refine fig_at (by assumption) ?_; k_extra "my size"))
  k_with "mine subscriptTail" => ((k_here; (with_reducible show wpAny _ _ (subscriptTail _ _ (Value.bytes _ _) (Value.int _ _)) _ _ _); k_dflt (refine' bytesItem_K ?aq671 ?bq671 ?_ ?hsq671 ?htq671; (case aq671 => k_extra "my byte at"); (case bq671 => decide); (case hsq671 => with_unfolding_all rfl); (case htq671 => intro _; with_unfolding_all rfl))))
  k_with "my index" => (first | (first | lia | omega) | decide | assumption)
  k_with "mine compareOp In" => ((k_here; (with_reducible show wpAny _ _ (compareOp CmpOp.In (Value.int _ _) (Value.bytes _ _)) _ _ _); k_dflt (refine' in_bytes ?aq673 ?bq673 ?_; (case aq673 => (first | lia | omega)); (case bq673 => (first | lia | omega)))))
  k_with "mine getMethod" => ((k_here; (with_reducible show wpAny _ _ (getMethod (Value.bytes _ _) "index" _) _ _ _); refine index_method ?_))
  k_with "mine call builtin:bytes.index" => ((k_here; (with_reducible show wpAny _ _ (call (Value.builtin "bytes.index") [Value.bytes _ _, Value.int _ _]) _ _ _); k_dflt (refine' bytes_index _ ?aq675 ?bq675 ?cq675 ?dq675 ?_; (case aq675 => (first | lia | omega)); (case bq675 => (first | lia | omega)); (case cq675 => decide); (case dq675 => assumption)); intro _ _; (try dsimp only)))
  k_with "mine subscriptTail" => ((k_here; (with_reducible show wpAny _ _ (subscriptTail _ _ (Value.bytes (byteArr _) _) (Value.int _ _)) _ _ _); k_dflt (refine' bytesInt_K ?aq676 ?bq676 ?rq676 ?zq676 ?_ ?hsq676 ?htq676; (case aq676 => (first | lia | omega)); (case bq676 => assumption); (case rq676 => first | assumption | k_extra "my bytes"); (case zq676 => k_extra "my size"); (case hsq676 => with_unfolding_all rfl); (case htq676 => intro _; with_unfolding_all rfl)); intro _ _; (try dsimp only)))
  k_with "my pick" => ((with_reducible first | exact kmk_upto (by l_ints) (by (first | lia | omega)) | exact kmk_from (by l_ints) (by (first | lia | omega)) | exact kmk_upto_neg (by l_ints) (by (first | lia | omega)) | exact kmk_from_neg (by l_ints) (by (first | lia | omega))))
  k_with "mine subscriptTail Name Slice ref ref" => ((k_here; (with_reducible show wpAny _ _ (subscriptTail _ (PySem.Expr.Slice _ _ none _) (Value.ref _) (Value.ref _)) _ _ _); k_dflt (refine' kmk_slice_ints ?Fq678 ?Nq678 ?lq678 ?pq678 ?qq678 ?iq678 ?mq678 ?cq678 ?_ ?sq678 ?tq678 ?zq678; (case Fq678 => k_asm); (case Nq678 => k_asm); (case lq678 => kmk_list); (case pq678 => kmk_part); (case qq678 => kmk_part); (case iq678 => l_ints); (case mq678 => k_extra "my pick"); (case cq678 => kmk_len); (case sq678 => with_unfolding_all rfl); (case tq678 => kmk_pure); (case zq678 => kmk_size)); intro D' ws' h' F' N' l1 hI' hC' hL'; (try k_lt l1); (try k_sweep)))
  k_with "my ints" => (first | l_ints | exact IntsAre.cons _ _ IntsAre.nil | exact IntsAre.cons _ _ (IntsAre.cons _ _ IntsAre.nil))
  k_with "mine binaryOp Add ref ref" => ((k_here; (with_reducible show wpAny _ _ (binaryOp _ (Value.ref _) (Value.ref _)) _ _ _); k_dflt (refine' kmk_add_ints ?Fq680 ?Nq680 ?aq680 ?bq680 ?iq680 ?jq680 ?_ ?zq680; (case Fq680 => k_asm); (case Nq680 => k_asm); (case aq680 => kmk_list); (case bq680 => kmk_list); (case iq680 => k_extra "my ints"); (case jq680 => k_extra "my ints"); (case zq680 => first | ((simp only [sizeLine_eq]); k_extra "my size") | kmk_sum)); intro D' ws' h' F' N' l1 hI'; (try k_lt l1); (try k_sweep)))
  k_with "mine call builtin:len" => ((k_here; (with_reducible show wpAny _ _ (call (Value.builtin "len") [Value.bytes (byteArr _) _]) _ _ _); k_dflt (refine' len_byteArr ?zq681 ?_; (case zq681 => k_extra "my size")); intro _ _; (try dsimp only)))
  k_with "mine call builtin:ord" => ((k_here; (with_reducible show wpAny _ _ (call (Value.builtin "ord") [Value.str _ _]) _ _ _); refine ord_of_char ?_; (try dsimp only)))
  k_with "my text slice" => (((with_reducible rename Fr _ _ _ _ => F'); (with_reducible rename News _ _ _ _ => N'); first | ((with_reducible show wpAny _ _ (subscriptTail _ (Expr.Slice none (some _) none _) _ _) _ _ _); (refine slice_strN_ns_len (hsz := ?hszq683) (s := ⟨_, _, _, _, _⟩) F' N' ?_); (case hszq683 => rw [sizeLine_eq]; (first | lia | omega))) | ((with_reducible show wpAny _ _ (subscriptTail _ (Expr.Slice (some _) none none _) _ _) _ _ _); (refine slice_strN_sn_len (hsz := ?hszq683) (s := ⟨_, _, _, _, _⟩) F' N' ?_); (case hszq683 => rw [sizeLine_eq]; (first | lia | omega)))))
  k_with "my units" => (((try simp only [units_in1, units_deeper, Around.mark_units]); (try dsimp only [ktrTop]); (first | lia | omega)))
  k_with "my tail" => ((first | assumption | (refine' And.right ?_; first | assumption | (refine' And.right ?_; first | assumption | (refine' And.right ?_; first | assumption | (refine' And.right ?_; first | assumption | (refine' And.right ?_; first | assumption | (refine' And.right ?_; first | assumption | (refine' And.right ?_; first | assumption | (refine' And.right ?_; first | assumption | (refine' And.right ?_; assumption)))))))))))
  k_with "my conj" => (first | k_extra "my tail" | (refine' And.left ?_; k_extra "my tail") | (refine' And.left ?_; refine' And.left ?_; k_extra "my tail") | (refine' And.right ?_; refine' And.left ?_; k_extra "my tail"))
  k_with "my ne" => ((refine neN ?_; (try dsimp only); first | (refine' Nat.ne_of_lt ?_; k_extra "my conj") | (refine' Nat.ne_of_gt ?_; k_extra "my conj") | k_extra "my conj" | (refine' Ne.symm ?_; k_extra "my conj") | (first | lia | omega)))
  k_with "my sides" => (((case k1 => k_asm); (case k2 => k_asm); (case k3 => k_asm); (case k4 => k_asm); (case k5 => k_asm); (case kK => first | assumption | exact rfl); (case ks => kcj_all); (case kd => first | ((try simp only [depth_mark, depth_under_make, depth_under_kw, depth_in1, depth_deeper]); (try dsimp only [ktrTop]); first | (refine' room3 ?hhq688 ?llq688; (case hhq688 => assumption); (case llq688 => exact Nat.le_of_ble_eq_true rfl)) | (first | lia | omega)) | (with_unfolding_all exact Nat.le_of_ble_eq_true rfl)); (case ku => first | ((try simp only [units_in1, units_deeper, Around.mark_units]); (try dsimp only [ktrTop]); first | (refine' room3 ?hhq688 ?llq688; (case hhq688 => assumption); (case llq688 => exact Nat.le_of_ble_eq_true rfl)) | (first | lia | omega)) | (with_unfolding_all exact Nat.le_of_ble_eq_true rfl))))
  trivial
section
theorem digits_spec (w : World) (ox od : Addr) (es : List DictEntry) (n : Nat) {seen : Int} {plain : Bool} {point last : Str} {nines behind : Int} (hO : OrderIs es seen plain point nines behind last)  :
    Spec w (hd.heap_1 w.params) 375 [.ref ox] [(ox, instObj 476 od), (od, dictOf es n)] 1 (fun v new => new = [] ∧ ∃ t, v = .int nines t) := by
  obtain ⟨⟨t1, g1⟩, g2, ⟨t3, g3⟩, ⟨t4, g4⟩, ⟨t5, g5⟩, ⟨t6, g6⟩, ⟨t7, g7⟩, ⟨t8, g8⟩, ⟨t9, g9⟩, g10, ⟨t11, g11⟩, ⟨t12, g12⟩, g13⟩ := hO
  unfold Spec
  intro dp un gd cn cs a ccd cl outer A₀ base h₀ L m mg mb mean news s Q E B F X N T hk hs hroom hun ret
  refine enterC (binds := [(Str.ofString "self", .ref ox)]) B F X N T rfl rfl hk hs (by k_is) (by k_is) (show dp < recursionLimit from Nat.lt_of_le_of_lt (Nat.le_add_right _ _) hroom) (BindsTo.of_eq rfl) (locs rfl) ret ?_ rfl rfl rfl (by decide)
  clear B F X N T ret hs
  intro g L' h₁ gs5 dr5 tk os5 F' N' B' X' T' l1
  (try dsimp only)
  show wpAny _ _ _ _ _ _
  k_fold
  k_extra "my steps"
  exact Ends.plain (by k_asm) (by k_asm) (by kcj_all) ⟨rfl, _, intVal (by (first | lia | omega))⟩
end
theorem wd56 : True := by
  k_with "mine call ref" => ((k_here; (with_reducible show wpAny _ _ (call (Value.ref 375) _) _ _ _); k_dflt (refine' Spec.use0 (digits_spec _ _ _ _ _ ?c0q689) ?k1 ?k2 ?k3 ?k4 ?k5 ?kK ?ks ?kd ?ku ?_; (case c0q689 => exact ⟨⟨_, by assumption⟩, by assumption, ⟨_, by assumption⟩, ⟨_, by assumption⟩, ⟨_, by assumption⟩, ⟨_, by assumption⟩, ⟨_, by assumption⟩, ⟨_, by assumption⟩, ⟨_, by assumption⟩, by assumption, ⟨_, by assumption⟩, ⟨_, by assumption⟩, by assumption⟩); k_extra "my sides"; intro t' h' tk' F' N'; (try k_sweep); (try dsimp only))))
  trivial
section
theorem is_whole_spec (w : World) (ox od : Addr) (es : List DictEntry) (n : Nat) {seen : Int} {plain : Bool} {point last : Str} {nines behind : Int} (hO : OrderIs es seen plain point nines behind last) (hM : NoMeth es) (h1 : 1 ≤ nines) (h2 : nines ≤ 18) (hla : last = Str.ofString "9") :
    Spec w (hd.heap_1 w.params) 466 [.ref ox] [(ox, instObj 476 od), (od, dictOf es n)] 2 (fun v new => new = [] ∧ v = .bool true) := by
  obtain ⟨⟨t1, g1⟩, g2, ⟨t3, g3⟩, ⟨t4, g4⟩, ⟨t5, g5⟩, ⟨t6, g6⟩, ⟨t7, g7⟩, ⟨t8, g8⟩, ⟨t9, g9⟩, g10, ⟨t11, g11⟩, ⟨t12, g12⟩, g13⟩ := hO
  obtain ⟨m1, m2, m3, m4, m5, m6, m7⟩ := hM
  subst hla
  unfold Spec
  intro dp un gd cn cs a ccd cl outer A₀ base h₀ L m mg mb mean news s Q E B F X N T hk hs hroom hun ret
  refine enterC (binds := [(Str.ofString "self", .ref ox)]) B F X N T rfl rfl hk hs (by k_is) (by k_is) (show dp < recursionLimit from Nat.lt_of_le_of_lt (Nat.le_add_right _ _) hroom) (BindsTo.of_eq rfl) (locs rfl) ret ?_ rfl rfl rfl (by decide)
  clear B F X N T ret hs
  intro g L' h₁ gs5 dr5 tk os5 F' N' B' X' T' l1
  (try dsimp only)
  show wpAny _ _ _ _ _ _
  k_fold
  k_extra "my steps"
  all_goals first | (exfalso; (first | lia | omega)) | exact Ends.plain (by k_asm) (by k_asm) (by kcj_all) ⟨rfl, congrArg Value.bool (decide_eq_true (by (first | lia | omega)))⟩
theorem scale_spec (w : World) (ox od : Addr) (es : List DictEntry) (n : Nat) {seen : Int} {plain : Bool} {point last : Str} {nines behind : Int} (hO : OrderIs es seen plain point nines behind last) (hM : NoMeth es) :
    Spec w (hd.heap_1 w.params) 473 [.ref ox] [(ox, instObj 476 od), (od, dictOf es n)] 2 (fun v new => new = [] ∧ ∃ t, v = .int behind t) := by
  obtain ⟨⟨t1, g1⟩, g2, ⟨t3, g3⟩, ⟨t4, g4⟩, ⟨t5, g5⟩, ⟨t6, g6⟩, ⟨t7, g7⟩, ⟨t8, g8⟩, ⟨t9, g9⟩, g10, ⟨t11, g11⟩, ⟨t12, g12⟩, g13⟩ := hO
  obtain ⟨m1, m2, m3, m4, m5, m6, m7⟩ := hM
  unfold Spec
  intro dp un gd cn cs a ccd cl outer A₀ base h₀ L m mg mb mean news s Q E B F X N T hk hs hroom hun ret
  refine enterC (binds := [(Str.ofString "self", .ref ox)]) B F X N T rfl rfl hk hs (by k_is) (by k_is) (show dp < recursionLimit from Nat.lt_of_le_of_lt (Nat.le_add_right _ _) hroom) (BindsTo.of_eq rfl) (locs rfl) ret ?_ rfl rfl rfl (by decide)
  clear B F X N T ret hs
  intro g L' h₁ gs5 dr5 tk os5 F' N' B' X' T' l1
  (try dsimp only)
  show wpAny _ _ _ _ _ _
  k_fold
  k_extra "my steps"
  exact Ends.plain (by k_asm) (by k_asm) (by kcj_all) ⟨rfl, _, intVal (by (first | lia | omega))⟩
end
theorem wd57 : True := by
  k_with "my some" => (first | assumption | exact isSome_of (by assumption) | (rw [getL_putL_eq]; rfl) | (rw [getL_putL_ne (by decide)]; k_extra "my some"))
  k_with "my has" => (first | assumption | exact getL_putL_eq | (rw [getL_putL_ne (by decide)]; k_extra "my has"))
  k_with "my room" => (first | exact Nat.le_trans (by assumption) (by decide) | (refine' Nat.le_trans (Nat.le_of_eq (putL_same ?hhq692)) ?rrq692; (case hhq692 => k_extra "my has"); (case rrq692 => k_extra "my room")))
  k_with "my small" => (first | assumption | (refine' Nat.le_trans (Nat.le_of_eq (putL_same ?hhq693)) ?rrq693; (case hhq693 => k_extra "my has"); (case rrq693 => k_extra "my small")))
  k_with "mine setAttr ref" => ((k_here; k_dflt (refine' set_dict ?k1 ?k2 ?k3 ?k4 ?k5 ?k6q694 ?k7q694 ?k8q694 ?k9q694 ?k10q694 ?k11q694 ?k12q694 ?k13q694 ?_; (case k1 => k_asm); (case k2 => k_asm); (case k3 => k_asm); (case k4 => k_inst); (case k5 => exact rfl); (case k6q694 => k_is); (case k7q694 => k_is); (case k8q694 => k_is); (case k9q694 => k_is); (case k10q694 => k_extra "my some"); (case k11q694 => exact rfl); (case k12q694 => k_upd); (case k13q694 => k_extra "my room"); k_whole; intro h' F' N'; (try k_sweep))))
  k_with "my get" => (first | assumption | exact getL_putL_eq | (rw [getL_putL_ne (by decide)]; k_extra "my get"))
  k_with "my sideA" => (((case k1 => k_asm); (case k2 => k_asm); (case k3 => k_asm); (case k4 => k_asm); (case k5 => k_asm); (case i1 => k_mem); (case i2 => k_mem)))
  k_with "my sideB" => (((case kK => first | assumption | exact rfl); (case kU => k_updF); (case ks => kcj_all); (case kd => first | ((try simp only [depth_mark, depth_under_make, depth_under_kw, depth_in1, depth_deeper]); (try dsimp only [ktrTop]); first | (refine' room3 ?hhq697 ?llq697; (case hhq697 => assumption); (case llq697 => exact Nat.le_of_ble_eq_true rfl)) | (first | lia | omega)) | (with_unfolding_all exact Nat.le_of_ble_eq_true rfl)); (case ku => first | ((try simp only [units_in1, units_deeper, Around.mark_units]); (try dsimp only [ktrTop]); first | (refine' room3 ?hhq697 ?llq697; (case hhq697 => assumption); (case llq697 => exact Nat.le_of_ble_eq_true rfl)) | (first | lia | omega)) | (with_unfolding_all exact Nat.le_of_ble_eq_true rfl)); intro v' o' h' tk' F' N' hP'; (obtain ⟨e1', es', n', e2', hO', hM', hl'⟩ := hP'); subst e1'; subst e2'; (obtain ⟨⟨_, _⟩, _, ⟨_, _⟩, ⟨_, _⟩, ⟨_, _⟩, ⟨_, _⟩, ⟨_, _⟩, ⟨_, _⟩, ⟨_, _⟩, _, ⟨_, _⟩, ⟨_, _⟩, _⟩ := hO'); (obtain ⟨_, _, _, _, _, _, _⟩ := hM'); (try dsimp only at N'); (try k_sweep); (try dsimp only)))
  k_with "mine call ref" => ((k_here; (with_reducible show wpAny _ _ (call (Value.ref 389) _) _ _ _); k_dflt (refine' SpecM.useO ?k1 ?k2 ?k3 ?k4 ?k5 ?i1 ?i2 (take_nine_spec _ _ _ _ _ _ _ _ _ ?c0q698 ?c1q698 ?c2q698 ?c3q698 ?c4q698 ?c5q698 ?c6q698 ?c7q698) ?kK ?kU ?ks ?kd ?ku ?_; k_extra "my sideA"; (case c0q698 => exact ⟨⟨_, by k_extra "my get"⟩, by k_extra "my get", ⟨_, by k_extra "my get"⟩, ⟨_, by k_extra "my get"⟩, ⟨_, by k_extra "my get"⟩, ⟨_, by k_extra "my get"⟩, ⟨_, by k_extra "my get"⟩, ⟨_, by k_extra "my get"⟩, ⟨_, by k_extra "my get"⟩, by k_extra "my get", ⟨_, by k_extra "my get"⟩, ⟨_, by k_extra "my get"⟩, by k_extra "my get"⟩); (case c1q698 => exact ⟨by k_extra "my get", by k_extra "my get", by k_extra "my get", by k_extra "my get", by k_extra "my get", by k_extra "my get", by k_extra "my get"⟩); (case c2q698 => k_extra "my small"); (case c3q698 => assumption); (case c4q698 => exact ⟨⟨_, by assumption⟩, ⟨_, by assumption⟩, ⟨_, by assumption⟩⟩); (case c5q698 => (first | lia | omega)); (case c6q698 => (first | lia | omega)); (case c7q698 => (first | lia | omega)); k_extra "my sideB")))
  k_with "mine call ref" => ((k_here; (with_reducible show wpAny _ _ (call (Value.ref 403) _) _ _ _); k_dflt (refine' SpecM.useO ?k1 ?k2 ?k3 ?k4 ?k5 ?i1 ?i2 (take_point_spec _ _ _ _ _ _ _ _ _ ?c0q699 ?c1q699 ?c2q699 ?c3q699 ?c4q699 ?c5q699 ?c6q699 ?c7q699 ?c8q699) ?kK ?kU ?ks ?kd ?ku ?_; k_extra "my sideA"; (case c0q699 => exact ⟨⟨_, by k_extra "my get"⟩, by k_extra "my get", ⟨_, by k_extra "my get"⟩, ⟨_, by k_extra "my get"⟩, ⟨_, by k_extra "my get"⟩, ⟨_, by k_extra "my get"⟩, ⟨_, by k_extra "my get"⟩, ⟨_, by k_extra "my get"⟩, ⟨_, by k_extra "my get"⟩, by k_extra "my get", ⟨_, by k_extra "my get"⟩, ⟨_, by k_extra "my get"⟩, by k_extra "my get"⟩); (case c1q699 => exact ⟨by k_extra "my get", by k_extra "my get", by k_extra "my get", by k_extra "my get", by k_extra "my get", by k_extra "my get", by k_extra "my get"⟩); (case c2q699 => k_extra "my small"); (case c3q699 => first | assumption | rfl); (case c4q699 => rfl); (case c5q699 => exact ⟨⟨_, by assumption⟩, ⟨_, by assumption⟩, ⟨_, by assumption⟩⟩); (case c6q699 => (first | lia | omega)); (case c7q699 => (first | lia | omega)); (case c8q699 => (first | lia | omega)); k_extra "my sideB")))
  trivial
section
theorem wd58 : True := by
  k_with "my ord" => (exact ⟨⟨_, by k_extra "my get"⟩, by k_extra "my get", ⟨_, by k_extra "my get"⟩, ⟨_, by k_extra "my get"⟩, ⟨_, by k_extra "my get"⟩, ⟨_, by k_extra "my get"⟩, ⟨_, by k_extra "my get"⟩, ⟨_, by k_extra "my get"⟩, ⟨_, by k_extra "my get"⟩, by k_extra "my get", ⟨_, by k_extra "my get"⟩, ⟨_, by k_extra "my get"⟩, by k_extra "my get"⟩)
  k_with "my nom" => (exact ⟨by k_extra "my get", by k_extra "my get", by k_extra "my get", by k_extra "my get", by k_extra "my get", by k_extra "my get", by k_extra "my get"⟩)
  k_with "mine isTrue BoolOp" => ((k_here; (rename CutMark => hHM); refine Held.mk ?_))
  trivial
theorem take_S (w : World) (ox od : Addr) (es : List DictEntry) (n : Nat) (sx sd : Addr) (ss : List DictEntry) (k : Nat) {seen : Int} {plain : Bool} {point last : Str} {nines behind c pl : Int} {sn : Str} (hO : OrderIs es seen plain point nines behind last) (hM : NoMeth es) (hl : es.length ≤ 16) (h0 : seen = 0) (hpl : plain = false) (hsn : sn = Str.ofString "S") (hS : SignIs ss sn c pl) (hxo : ¬ (@Eq Nat od ox)) (hxs : ¬ (@Eq Nat od sx)) (hxd : ¬ (@Eq Nat od sd)) :
    SpecM w (hd.heap_1 w.params) 459 [.ref ox, .ref sx] od (dictOf es n) [(ox, instObj 476 od), (sx, instObj 319 sd), (sd, dictOf ss k)] 1 (OrdPost (seen + 1) true point nines behind (Str.ofString "S")) := by
  obtain ⟨⟨t1, g1⟩, g2, ⟨t3, g3⟩, ⟨t4, g4⟩, ⟨t5, g5⟩, ⟨t6, g6⟩, ⟨t7, g7⟩, ⟨t8, g8⟩, ⟨t9, g9⟩, g10, ⟨t11, g11⟩, ⟨t12, g12⟩, g13⟩ := hO
  obtain ⟨m1, m2, m3, m4, m5, m6, m7⟩ := hM
  obtain ⟨⟨u1, s1⟩, ⟨u2, s2⟩, ⟨u3, s3⟩⟩ := hS
  subst h0
  subst hpl
  subst hsn
  unfold SpecM
  intro dp un gd cn cs a ccd cl outer A₀ base h₀ L m mg mb mean news gn s Q E B F X N T hk hu hs hroom hun ret
  refine enterM (binds := [(Str.ofString "self", .ref ox), (Str.ofString "one", .ref sx)]) B F X N T rfl rfl hk hu hs (by k_is) (by k_is) (show dp < recursionLimit from Nat.lt_of_le_of_lt (Nat.le_add_right _ _) hroom) (BindsTo.of_eq rfl) (locs rfl) ret ?_ rfl rfl rfl (by decide)
  clear B F X N T ret hs hu
  intro g L' h₁ gs5 dr5 tk os5 F' N' B' X' T'
  (try dsimp only)
  show wpAny _ _ _ _ _ _
  k_fold
  have hxo2 : ¬ (@Eq Nat ox od) := fun e => hxo e.symm
  have hxs2 : ¬ (@Eq Nat sx od) := fun e => hxs e.symm
  have hxd2 : ¬ (@Eq Nat sd od) := fun e => hxd e.symm
  k_extra "my steps"
  show EndsM _ _ _ _ _ _ _
  exact EndsM.intro (by k_asm) (by k_asm) (by k_mem) (by kcj_all) ⟨rfl, _, _, rfl, by k_extra "my ord", by k_extra "my nom", by k_extra "my small"⟩
theorem take_9 (w : World) (ox od : Addr) (es : List DictEntry) (n : Nat) (sx sd : Addr) (ss : List DictEntry) (k : Nat) {seen : Int} {plain : Bool} {point last : Str} {nines behind c pl : Int} {sn : Str} (hO : OrderIs es seen plain point nines behind last) (hM : NoMeth es) (hl : es.length ≤ 16) (hp : point = Str.ofString "" ∨ point = Str.ofString "V") (hsn : sn = Str.ofString "9") (hS : SignIs ss sn c pl) (hxo : ¬ (@Eq Nat od ox)) (hxs : ¬ (@Eq Nat od sx)) (hxd : ¬ (@Eq Nat od sd)) :
    SpecM w (hd.heap_1 w.params) 459 [.ref ox, .ref sx] od (dictOf es n) [(ox, instObj 476 od), (sx, instObj 319 sd), (sd, dictOf ss k)] 4 (OrdPost (seen + 1) plain point (nines + c) (if point = Str.ofString "" then behind else behind + c) (Str.ofString "9")) := by
  obtain ⟨⟨t1, g1⟩, g2, ⟨t3, g3⟩, ⟨t4, g4⟩, ⟨t5, g5⟩, ⟨t6, g6⟩, ⟨t7, g7⟩, ⟨t8, g8⟩, ⟨t9, g9⟩, g10, ⟨t11, g11⟩, ⟨t12, g12⟩, g13⟩ := hO
  obtain ⟨m1, m2, m3, m4, m5, m6, m7⟩ := hM
  obtain ⟨⟨u1, s1⟩, ⟨u2, s2⟩, ⟨u3, s3⟩⟩ := hS
  subst hsn
  unfold SpecM
  intro dp un gd cn cs a ccd cl outer A₀ base h₀ L m mg mb mean news gn s Q E B F X N T hk hu hs hroom hun ret
  refine enterM (binds := [(Str.ofString "self", .ref ox), (Str.ofString "one", .ref sx)]) B F X N T rfl rfl hk hu hs (by k_is) (by k_is) (show dp < recursionLimit from Nat.lt_of_le_of_lt (Nat.le_add_right _ _) hroom) (BindsTo.of_eq rfl) (locs rfl) ret ?_ rfl rfl rfl (by decide)
  clear B F X N T ret hs hu
  intro g L' h₁ gs5 dr5 tk os5 F' N' B' X' T'
  (try dsimp only)
  show wpAny _ _ _ _ _ _
  k_fold
  have hxo2 : ¬ (@Eq Nat ox od) := fun e => hxo e.symm
  have hxs2 : ¬ (@Eq Nat sx od) := fun e => hxs e.symm
  have hxd2 : ¬ (@Eq Nat sd od) := fun e => hxd e.symm
  have hHM : CutMark := CutMark.mk
  k_extra "my steps"
  unfold Held
  clear hHM
  rename Fr _ _ _ _ => hF
  rename News _ _ _ _ => hN
  refine cut_true false hF hN ?_ ?_
  · rcases Bool.eq_false_or_eq_true plain with rfl | rfl
    all_goals (
      k_extra "my steps"
      exact CutB.intro (by k_asm) (by k_asm) (by kcj_all) rfl)
  intro h6 k6 F6 N6
  clear hF hN
  show wpAny _ _ _ _ _ _
  (try k_fold)
  k_extra "my steps"
  show EndsM _ _ _ _ _ _ _
  exact EndsM.intro (by k_asm) (by k_asm) (by k_mem) (by kcj_all) ⟨rfl, _, _, rfl, by k_extra "my ord", by k_extra "my nom", by k_extra "my small"⟩
theorem take_V (w : World) (ox od : Addr) (es : List DictEntry) (n : Nat) (sx sd : Addr) (ss : List DictEntry) (k : Nat) {seen : Int} {plain : Bool} {point last : Str} {nines behind c pl : Int} {sn : Str} (hO : OrderIs es seen plain point nines behind last) (hM : NoMeth es) (hl : es.length ≤ 16) (hp : point = Str.ofString "") (hsn : sn = Str.ofString "V") (hS : SignIs ss sn c pl) (hxo : ¬ (@Eq Nat od ox)) (hxs : ¬ (@Eq Nat od sx)) (hxd : ¬ (@Eq Nat od sd)) :
    SpecM w (hd.heap_1 w.params) 459 [.ref ox, .ref sx] od (dictOf es n) [(ox, instObj 476 od), (sx, instObj 319 sd), (sd, dictOf ss k)] 4 (OrdPost (seen + 1) plain (Str.ofString "V") nines behind (Str.ofString "V")) := by
  obtain ⟨⟨t1, g1⟩, g2, ⟨t3, g3⟩, ⟨t4, g4⟩, ⟨t5, g5⟩, ⟨t6, g6⟩, ⟨t7, g7⟩, ⟨t8, g8⟩, ⟨t9, g9⟩, g10, ⟨t11, g11⟩, ⟨t12, g12⟩, g13⟩ := hO
  obtain ⟨m1, m2, m3, m4, m5, m6, m7⟩ := hM
  obtain ⟨⟨u1, s1⟩, ⟨u2, s2⟩, ⟨u3, s3⟩⟩ := hS
  subst hp
  subst hsn
  unfold SpecM
  intro dp un gd cn cs a ccd cl outer A₀ base h₀ L m mg mb mean news gn s Q E B F X N T hk hu hs hroom hun ret
  refine enterM (binds := [(Str.ofString "self", .ref ox), (Str.ofString "one", .ref sx)]) B F X N T rfl rfl hk hu hs (by k_is) (by k_is) (show dp < recursionLimit from Nat.lt_of_le_of_lt (Nat.le_add_right _ _) hroom) (BindsTo.of_eq rfl) (locs rfl) ret ?_ rfl rfl rfl (by decide)
  clear B F X N T ret hs hu
  intro g L' h₁ gs5 dr5 tk os5 F' N' B' X' T'
  (try dsimp only)
  show wpAny _ _ _ _ _ _
  k_fold
  have hxo2 : ¬ (@Eq Nat ox od) := fun e => hxo e.symm
  have hxs2 : ¬ (@Eq Nat sx od) := fun e => hxs e.symm
  have hxd2 : ¬ (@Eq Nat sd od) := fun e => hxd e.symm
  have hHM : CutMark := CutMark.mk
  k_extra "my steps"
  unfold Held
  clear hHM
  rename Fr _ _ _ _ => hF
  rename News _ _ _ _ => hN
  refine cut_true false hF hN ?_ ?_
  · rcases Bool.eq_false_or_eq_true plain with rfl | rfl
    all_goals (
      k_extra "my steps"
      exact CutB.intro (by k_asm) (by k_asm) (by kcj_all) rfl)
  intro h6 k6 F6 N6
  clear hF hN
  show wpAny _ _ _ _ _ _
  (try k_fold)
  k_extra "my steps"
  show EndsM _ _ _ _ _ _ _
  exact EndsM.intro (by k_asm) (by k_asm) (by k_mem) (by kcj_all) ⟨rfl, _, _, rfl, by k_extra "my ord", by k_extra "my nom", by k_extra "my small"⟩
end
theorem wd59 : True := by
  k_with_none
  k_with "my fold" => (((first | (with_reducible show wpAny _ _ (exec (PySem.Stmt.Assign _ _ _) _) _ _ _) | (with_reducible show wpAny _ _ (exec (PySem.Stmt.Return _ _) _) _ _ _) | (with_reducible show wpAny _ _ (exec (PySem.Stmt.If _ _ _ _) _) _ _ _) | (with_reducible show wpAny _ _ (exec (PySem.Stmt.Expr _ _) _) _ _ _) | (with_reducible show wpAny _ _ (exec (PySem.Stmt.AugAssign _ _ _ _) _) _ _ _) | (with_reducible show wpAny _ _ (eval (PySem.Expr.BinOp _ _ _ _) _) _ _ _) | (with_reducible show wpAny _ _ (eval (PySem.Expr.Call _ _ _ _) _) _ _ _)); (fail_if_success (fail_if_success k_fold)); refine (let qk := _; keepQ qk ?_)))
  k_with "my get" => (assumption)
  k_with "mine call type:range" => ((k_here; (rename Fr _ _ _ _ => F'); (rename News _ _ _ _ => N'); (with_unfolding_all refine range1_rows F' N' ?_; intro _ _ _ _ _ _ _ _ _)))
  k_with "my steps" => (repeat' (first | ((fail_if_success (fail_if_success k_unfold)); (try dsimp only); refine (?_ : wpAny _ _ _ _ _ _)) | (k_unfold; (try dsimp only)) | k_extra "my fold" | ((fail_if_success (with_reducible show wpAny _ _ (pyIter _) (fun it s₂ => LoopAtV _ _ _ _ _ _ _ _ _ it s₂) _ _)); (fail_if_success (with_reducible show wpAny _ _ (pyIter _) (fun it s₂ => PairAt3 _ _ _ _ _ _ _ _ _ _ it s₂) _ _)); (fail_if_success (with_reducible show LoopStep3 _ _ _ _ _ _ _ _ _ _)); (fail_if_success (with_reducible show InvEndN _ _ _ _ _ _ _)); (fail_if_success (with_reducible show Ends _ _ _ _ _ _)); first | walk1 | (dsimp only; walk1) | (dsimp only; k_unfold; (try dsimp only)))))
  k_with "my plain steps" => (repeat' (first | ((fail_if_success (fail_if_success k_unfold)); (try dsimp only); refine (?_ : wpAny _ _ _ _ _ _)) | (k_unfold; (try dsimp only)) | ((fail_if_success (with_reducible show wpAny _ _ (pyIter _) (fun it s₂ => LoopAtV _ _ _ _ _ _ _ _ _ it s₂) _ _)); (fail_if_success (with_reducible show wpAny _ _ (pyIter _) (fun it s₂ => PairAt3 _ _ _ _ _ _ _ _ _ _ it s₂) _ _)); (fail_if_success (with_reducible show LoopStep3 _ _ _ _ _ _ _ _ _ _)); (fail_if_success (with_reducible show InvEndN _ _ _ _ _ _ _)); (fail_if_success (with_reducible show Ends _ _ _ _ _ _)); first | walk1 | (dsimp only; walk1) | (dsimp only; k_unfold; (try dsimp only)))))
  k_with "my bytes" => (first | exact all48 (by assumption) | (refine all_cons (by decide) ?_; k_extra "my bytes") | (refine all_snoc (by decide) ?_; k_extra "my bytes"))
  k_with "my size" => (first | (first | lia | omega) | ((try simp only [List.length_map, List.length_cons, List.length_append, List.length_nil, List.length_set, List.length_reverse, lits_length, figs_length, stepKs_length]); (first | lia | omega)))
  k_with "mine call type:bytes" => ((k_here; (with_reducible show wpAny _ _ (call (Value.type "bytes") [Value.ref _]) _ _ _); k_dflt (refine' bytesOf_K ?Fq710 ?Nq710 ?mq710 ?iq710 ?rq710 ?zq710 ?hq710 ?_; (case Fq710 => k_asm); (case Nq710 => k_asm); (case mq710 => k_mem); (case iq710 => assumption); (case rq710 => k_extra "my bytes"); (case zq710 => k_extra "my size"); (case hq710 => exact rfl); k_whole); intro h' t' k' F' N'; (try k_sweep)))
  k_with "my bytes" => ((refine all_set (u8_in _) ?_; k_extra "my bytes"))
  k_with "my byte at" => ((refine fig_at (by assumption) ?_; k_extra "my size"))
  k_with "mine subscriptTail" => ((k_here; (with_reducible show wpAny _ _ (subscriptTail _ _ (Value.bytes _ _) (Value.int _ _)) _ _ _); k_dflt (refine' bytesItem_K ?aq713 ?bq713 ?_ ?hsq713 ?htq713; (case aq713 => k_extra "my byte at"); (case bq713 => decide); (case hsq713 => with_unfolding_all rfl); (case htq713 => intro _; with_unfolding_all rfl))))
  k_with "my index" => (first | (first | lia | omega) | decide | assumption)
  k_with "mine compareOp In" => ((k_here; (with_reducible show wpAny _ _ (compareOp CmpOp.In (Value.int _ _) (Value.bytes _ _)) _ _ _); k_dflt (refine' in_bytes ?aq715 ?bq715 ?_; (case aq715 => (first | lia | omega)); (case bq715 => (first | lia | omega)))))
  k_with "mine getMethod" => ((k_here; (with_reducible show wpAny _ _ (getMethod (Value.bytes _ _) "index" _) _ _ _); refine index_method ?_))
  k_with "mine call builtin:bytes.index" => ((k_here; (with_reducible show wpAny _ _ (call (Value.builtin "bytes.index") [Value.bytes _ _, Value.int _ _]) _ _ _); k_dflt (refine' bytes_index _ ?aq717 ?bq717 ?cq717 ?dq717 ?_; (case aq717 => (first | lia | omega)); (case bq717 => (first | lia | omega)); (case cq717 => decide); (case dq717 => assumption)); intro _ _; (try dsimp only)))
  k_with "mine subscriptTail" => ((k_here; (with_reducible show wpAny _ _ (subscriptTail _ _ (Value.bytes (byteArr _) _) (Value.int _ _)) _ _ _); k_dflt (refine' bytesInt_K ?aq718 ?bq718 ?rq718 ?zq718 ?_ ?hsq718 ?htq718; (case aq718 => (first | lia | omega)); (case bq718 => assumption); (case rq718 => first | assumption | k_extra "my bytes"); (case zq718 => k_extra "my size"); (case hsq718 => with_unfolding_all rfl); (case htq718 => intro _; with_unfolding_all rfl)); intro _ _; (try dsimp only)))
  k_with "my pick" => ((with_reducible first | exact kmk_upto (by l_ints) (by (first | lia | omega)) | exact kmk_from (by l_ints) (by (first | lia | omega)) | exact kmk_upto_neg (by l_ints) (by (first | lia | omega)) | exact kmk_from_neg (by l_ints) (by (first | lia | omega))))
  k_with "mine subscriptTail Name Slice ref ref" => ((k_here; (with_reducible show wpAny _ _ (subscriptTail _ (PySem.Expr.Slice _ _ none _) (Value.ref _) (Value.ref _)) _ _ _); k_dflt (refine' kmk_slice_ints ?Fq720 ?Nq720 ?lq720 ?pq720 ?qq720 ?iq720 ?mq720 ?cq720 ?_ ?sq720 ?tq720 ?zq720; (case Fq720 => k_asm); (case Nq720 => k_asm); (case lq720 => kmk_list); (case pq720 => kmk_part); (case qq720 => kmk_part); (case iq720 => l_ints); (case mq720 => k_extra "my pick"); (case cq720 => kmk_len); (case sq720 => with_unfolding_all rfl); (case tq720 => kmk_pure); (case zq720 => kmk_size)); intro D' ws' h' F' N' l1 hI' hC' hL'; (try k_lt l1); (try k_sweep)))
  k_with "my ints" => (first | l_ints | exact IntsAre.cons _ _ IntsAre.nil | exact IntsAre.cons _ _ (IntsAre.cons _ _ IntsAre.nil))
  k_with "mine binaryOp Add ref ref" => ((k_here; (with_reducible show wpAny _ _ (binaryOp _ (Value.ref _) (Value.ref _)) _ _ _); k_dflt (refine' kmk_add_ints ?Fq722 ?Nq722 ?aq722 ?bq722 ?iq722 ?jq722 ?_ ?zq722; (case Fq722 => k_asm); (case Nq722 => k_asm); (case aq722 => kmk_list); (case bq722 => kmk_list); (case iq722 => k_extra "my ints"); (case jq722 => k_extra "my ints"); (case zq722 => first | ((simp only [sizeLine_eq]); k_extra "my size") | kmk_sum)); intro D' ws' h' F' N' l1 hI'; (try k_lt l1); (try k_sweep)))
  k_with "mine call builtin:len" => ((k_here; (with_reducible show wpAny _ _ (call (Value.builtin "len") [Value.bytes (byteArr _) _]) _ _ _); k_dflt (refine' len_byteArr ?zq723 ?_; (case zq723 => k_extra "my size")); intro _ _; (try dsimp only)))
  k_with "mine call builtin:ord" => ((k_here; (with_reducible show wpAny _ _ (call (Value.builtin "ord") [Value.str _ _]) _ _ _); refine ord_of_char ?_; (try dsimp only)))
  k_with "my text slice" => (((with_reducible rename Fr _ _ _ _ => F'); (with_reducible rename News _ _ _ _ => N'); first | ((with_reducible show wpAny _ _ (subscriptTail _ (Expr.Slice none (some _) none _) _ _) _ _ _); (refine slice_strN_ns_len (hsz := ?hszq725) (s := ⟨_, _, _, _, _⟩) F' N' ?_); (case hszq725 => rw [sizeLine_eq]; (first | lia | omega))) | ((with_reducible show wpAny _ _ (subscriptTail _ (Expr.Slice (some _) none none _) _ _) _ _ _); (refine slice_strN_sn_len (hsz := ?hszq725) (s := ⟨_, _, _, _, _⟩) F' N' ?_); (case hszq725 => rw [sizeLine_eq]; (first | lia | omega)))))
  k_with "my units" => (((try simp only [units_in1, units_deeper, Around.mark_units]); (try dsimp only [ktrTop]); (first | lia | omega)))
  k_with "my tail" => ((first | assumption | (refine' And.right ?_; first | assumption | (refine' And.right ?_; first | assumption | (refine' And.right ?_; first | assumption | (refine' And.right ?_; first | assumption | (refine' And.right ?_; first | assumption | (refine' And.right ?_; first | assumption | (refine' And.right ?_; first | assumption | (refine' And.right ?_; first | assumption | (refine' And.right ?_; assumption)))))))))))
  k_with "my conj" => (first | k_extra "my tail" | (refine' And.left ?_; k_extra "my tail") | (refine' And.left ?_; refine' And.left ?_; k_extra "my tail") | (refine' And.right ?_; refine' And.left ?_; k_extra "my tail"))
  k_with "my ne" => ((refine neN ?_; (try dsimp only); first | (refine' Nat.ne_of_lt ?_; k_extra "my conj") | (refine' Nat.ne_of_gt ?_; k_extra "my conj") | k_extra "my conj" | (refine' Ne.symm ?_; k_extra "my conj") | (first | lia | omega)))
  k_with "my sides" => (((case k1 => k_asm); (case k2 => k_asm); (case k3 => k_asm); (case k4 => k_asm); (case k5 => k_asm); (case kK => first | assumption | exact rfl); (case ks => kcj_all); (case kd => first | ((try simp only [depth_mark, depth_under_make, depth_under_kw, depth_in1, depth_deeper]); (try dsimp only [ktrTop]); first | (refine' room3 ?hhq730 ?llq730; (case hhq730 => assumption); (case llq730 => exact Nat.le_of_ble_eq_true rfl)) | (first | lia | omega)) | (with_unfolding_all exact Nat.le_of_ble_eq_true rfl)); (case ku => first | ((try simp only [units_in1, units_deeper, Around.mark_units]); (try dsimp only [ktrTop]); first | (refine' room3 ?hhq730 ?llq730; (case hhq730 => assumption); (case llq730 => exact Nat.le_of_ble_eq_true rfl)) | (first | lia | omega)) | (with_unfolding_all exact Nat.le_of_ble_eq_true rfl))))
  k_with "mine execs cons" => ((k_here; (with_reducible show wpAny _ _ (execs (PySem.Stmt.Assign [PySem.Expr.Attribute _ _ _] _ _ :: _) _) _ _ _); k_dflt (refine' init_step ?hCq731 ?Xq731 ?Fq731 ?Nq731 ?lq731 ?sq731 rfl ?vq731 ?sfq731 ?tq731 ?hlq731 ?hzq731 ?swq731 ?_; (case hCq731 => assumption); (case Xq731 => assumption); (case Fq731 => k_asm); (case Nq731 => k_asm); (case lq731 => assumption); (case sq731 => assumption); (case vq731 => exact rfl); (case sfq731 => exact rfl); (case tq731 => k_is); (case hlq731 => exact rfl); (case hzq731 => exact Nat.le_of_ble_eq_true rfl); (case swq731 => exact rfl); intro h' t' tk' n' F' N'; (try dsimp only [List.cons_append, List.nil_append] at N'); (try k_sweep))))
  trivial
section
theorem pic_new (w : World) (x cat : Str) (D : Addr) (d sc size : Nat) (sg : Bool) (t1 t2 t3 t4 t5 : Tok) :
    Spec w (hd.heap_1 w.params) 291 [.str x t1, .ref D, .str cat t2, .int d t3, .int sc t4, .bool sg, .int size t5] [] 2 (fun v new => ∃ x dx es n, v = .ref x ∧ new = [(x, instObj 291 dx), (dx, dictOf es n)] ∧ PicIs es cat d sc size sg ∧ True ∧ @LT.lt Nat _ dx x) := by
  unfold Spec
  intro dp un gd cn cs a ccd cl outer A₀ base h₀ L m mg mb mean news s Q E B F X N T hk hs hroom hun ret
  refine enterI (binds := fun p => [(Str.ofString "self", .ref p), (Str.ofString "text", .str x t1), (Str.ofString "symbols", .ref D), (Str.ofString "category", .str cat t2), (Str.ofString "digits", .int d t3), (Str.ofString "scale", .int sc t4), (Str.ofString "is_signed", .bool sg), (Str.ofString "size", .int size t5)]) (P := fun x new => ∃ dx es n, new = [(x, instObj 291 dx), (dx, dictOf es n)] ∧ PicIs es cat d sc size sg ∧ True ∧ @LT.lt Nat _ dx x) B F X N T rfl rfl hk hs (by k_is) (by k_is) (by k_is) (by k_is) (by k_is) (by simp only [depth_under_make]; show dp + 1 < recursionLimit; (first | lia | omega)) (fun x h' X' => BindsTo.of_eq rfl) (fun x => locs rfl) (fun x new h' tk' F N D P => ret _ new h' tk' F N D ?_) ?_ rfl rfl rfl (by decide)
  · obtain ⟨dx, es, n, e1, e2, e3, e4⟩ := P
    exact ⟨x, dx, es, n, rfl, e1, e2, e3, e4⟩
  clear B F X N T ret hs
  intro x dx g L' h₁ gs5 dr5 tk os5 ldx F' N' B' X' T' l1 l2
  have hC : PlainCls (hd.heap_1 w.params) 291 := ⟨by k_is, by k_is, by k_is⟩
  have hsub : ∀ p ∈ @List.nil (Addr × Obj), @Ne Nat p.1 dx := fun _ h => nomatch h
  (try dsimp only)
  show wpAny _ _ _ _ _ _
  k_fold
  k_extra "my steps"
  refine EndsI.intro [_, _] (by k_asm) (by k_asm) (fun _ h => nomatch h) (by kcj_all) (fun _ h => nomatch h) ⟨_, _, _, rfl, ⟨⟨_, rfl⟩, ⟨_, rfl⟩, ⟨_, rfl⟩, ⟨_, rfl⟩, rfl⟩, trivial, ldx⟩
end
section
structure OS where
  seen : Int
  plain : Bool
  point : Str
  nines : Int
  behind : Int
  last : Str
def OS.take (o : OS) (a : Str × Int × Int) : OS :=
  if a.1 = Str.ofString "S" then ⟨o.seen + 1, true, o.point, o.nines, o.behind, Str.ofString "S"⟩
  else if a.1 = Str.ofString "9" then ⟨o.seen + 1, o.plain, o.point, o.nines + a.2.1, if o.point = Str.ofString "" then o.behind else o.behind + a.2.1, Str.ofString "9"⟩
  else ⟨o.seen + 1, o.plain, Str.ofString "V", o.nines, o.behind, Str.ofString "V"⟩
def OS.ok (o : OS) (a : Str × Int × Int) : Prop :=
  (a.1 = Str.ofString "S" ∧ o.seen = 0 ∧ o.plain = false) ∨ (a.1 = Str.ofString "9" ∧ (o.point = Str.ofString "" ∨ o.point = Str.ofString "V")) ∨ (a.1 = Str.ofString "V" ∧ o.point = Str.ofString "")
def OS.init : OS := ⟨0, false, Str.ofString "", 0, 0, Str.ofString ""⟩
def OS.all (o : OS) : List (Str × Int × Int) → Prop
  | [] => True
  | a :: r => o.ok a ∧ (o.take a).all r
theorem OS.all_at : ∀ {l : List (Str × Int × Int)} {o : OS} {i : Nat} {a : Str × Int × Int}, o.all l → l[i]? = some a → ((l.take i).foldl OS.take o).ok a
  | _ :: _, _, 0, _, h, e => by cases e; exact h.1
  | b :: r, o, i + 1, _, h, e => OS.all_at (l := r) (o := o.take b) (i := i) h.2 e
def OrdIs (es : List DictEntry) (o : OS) : Prop := OrderIs es o.seen o.plain o.point o.nines o.behind o.last
def OrdP (o : OS) (v : Value) (o' : Obj) : Prop := v = .none ∧ ∃ es' n', o' = dictOf es' n' ∧ OrdIs es' o ∧ NoMeth es' ∧ es'.length ≤ 16
theorem take_spec (w : World) (ox od : Addr) (es : List DictEntry) (n : Nat) (sx sd : Addr) (ss : List DictEntry) (k : Nat) (o : OS) (a : Str × Int × Int) (hO : OrdIs es o) (hM : NoMeth es) (hl : es.length ≤ 16) (hok : o.ok a) (hS : SignIs ss a.1 a.2.1 a.2.2) (hxo : ¬ (@Eq Nat od ox)) (hxs : ¬ (@Eq Nat od sx)) (hxd : ¬ (@Eq Nat od sd)) :
    SpecM w (hd.heap_1 w.params) 459 [.ref ox, .ref sx] od (dictOf es n) [(ox, instObj 476 od), (sx, instObj 319 sd), (sd, dictOf ss k)] 4 (OrdP (o.take a)) := by
  rcases hok with ⟨h1, h2, h3⟩ | ⟨h1, h2⟩ | ⟨h1, h2⟩
  · have h := take_S w ox od es n sx sd ss k hO hM hl h2 h3 h1 hS hxo hxs hxd
    have e : o.take a = ⟨o.seen + 1, true, o.point, o.nines, o.behind, Str.ofString "S"⟩ := if_pos h1
    rw [e]
    intro dp un gd cn cs a ccd cl outer A₀ base h₀ L m mg mb mean news gn s Q E B F X N T hk hu hs hroom hun ret
    exact h _ _ _ _ _ _ _ _ _ _ _ _ _ _ _ _ _ _ _ _ _ _ B F X N T hk hu hs (by (first | lia | omega)) (by (first | lia | omega)) ret
  · have h := take_9 w ox od es n sx sd ss k hO hM hl h2 h1 hS hxo hxs hxd
    have e : o.take a = ⟨o.seen + 1, o.plain, o.point, o.nines + a.2.1, if o.point = Str.ofString "" then o.behind else o.behind + a.2.1, Str.ofString "9"⟩ := (if_neg (by rw [h1]; decide)).trans (if_pos h1)
    rw [e]
    exact h
  · have h := take_V w ox od es n sx sd ss k hO hM hl h2 h1 hS hxo hxs hxd
    have e : o.take a = ⟨o.seen + 1, o.plain, Str.ofString "V", o.nines, o.behind, Str.ofString "V"⟩ := (if_neg (by rw [h1]; decide)).trans (if_neg (by rw [h1]; decide))
    rw [e]
    exact h
theorem size_of_symbols_nat (w : World) (S : Addr) (l : List (Str × Int × Int)) (ts : List Value) (nS : Nat) (tos : List (Addr × Obj)) (sz : Nat) (hT : TupsAre l ts tos) (hP : Plains l) (hl9 : l.length ≤ 4) (hsz : sizeOf l = (sz : Int)) :
    Spec w (hd.heap_1 w.params) 354 [.ref S] ((S, W.listOf ts.toArray nS) :: tos) 1 (fun v new => new = [] ∧ ∃ t, v = .int (sz : Nat) t) := by
  have h := size_of_symbols_spec w S l ts nS tos hT hP hl9
  rw [hsz] at h
  exact h
theorem eq_nil_nil {prog : Program} {w : World} {A : Around} {E : Value → Shared → Prop} {s : Shared} {h₀ : Heap} {L a b : Addr} {news : List (Addr × Obj)} {Q : Value → Shared → Prop} {n n' : Nat} (N : News h₀ L s.heap news) (ha : (a, W.listOf #[] n) ∈ news) (hb : (b, W.listOf #[] n') ∈ news) (hu : A.units < cLine) (h : Q (.bool true) s) :
    wpAny (model prog w) A (compareOp .Eq (.ref a) (.ref b)) Q E s :=
  SeqAt.RcAt.lists (e := fun _ => true) ⟨_, (N _ ha).1, rfl, _, rfl⟩ ⟨_, (N _ hb).1, rfl, _, rfl⟩ rfl hu (fun j h1 => absurd h1 (Nat.not_lt_zero j)) prog w E Q h
theorem known4 {m : Str → Option Value} {a b c d : Str} {u v w x : Option Value} (h1 : m a = u) (h2 : m b = v) (h3 : m c = w) (h4 : m d = x) : m = fun y => if y = a then u else if y = b then v else if y = c then w else if y = d then x else m y := by
  funext y
  by_cases e1 : y = a
  · rw [if_pos e1, e1, h1]
  · rw [if_neg e1]
    by_cases e2 : y = b
    · rw [if_pos e2, e2, h2]
    · rw [if_neg e2]
      by_cases e3 : y = c
      · rw [if_pos e3, e3, h3]
      · rw [if_neg e3]
        by_cases e4 : y = d
        · rw [if_pos e4, e4, h4]
        · rw [if_neg e4]
inductive NumJ (l : List (Str × Int × Int)) (S ox od D : Addr) (x : Str) (tx : Tok) (vs : List Value) (nS : Nat) (rest : List (Addr × Obj)) (i : Nat) (m : Str → Option Value) (nx : List (Addr × Obj)) : Prop
  | mk (es : List DictEntry) (n : Nat) (u : Str → Option Value) : (m = (fun y => if y = Str.ofString "order" then some (.ref ox) else if y = Str.ofString "symbols" then some (.ref D) else if y = Str.ofString "signs" then some (.ref S) else if y = Str.ofString "text" then some (.str x tx) else u y)) → (nx = (S, W.listOf vs.toArray nS) :: (od, dictOf es n) :: (ox, instObj 476 od) :: rest) → (OrdIs es ((l.take i).foldl OS.take OS.init)) → (NoMeth es) → (es.length ≤ 16) →
    NumJ l S ox od D x tx vs nS rest i m nx
theorem tups_at {l : List (Str × Int × Int)} {ts : List Value} {os : List (Addr × Obj)} {i : Nat} {v : Value} {z : Option Int} (hT : TupsAre l ts os) (hP : Plains l) (hv : ts[i]? = some v) (hz : (l.map fun _ => (none : Option Int))[i]? = some z) :
    z = none ∧ ∃ (sn : Str) (c : Int) (T : Addr) (t1 t2 : Tok), v = Value.ref T ∧ (T, ({ cls := .type "tuple", data := .seq #[.str sn t1, .int c t2] } : Obj)) ∈ os ∧ (sn = Str.ofString "S" ∨ sn = Str.ofString "9" ∨ sn = Str.ofString "V") := by
  have hi : i < l.length := by
    have := (List.getElem?_eq_some_iff.mp hv).1
    rw [hT.1] at this; exact this
  obtain ⟨⟨sn, c, pl⟩, hli⟩ : ∃ a, l[i]? = some a := ⟨_, List.getElem?_eq_getElem hi⟩
  obtain ⟨T, t1, t2, e1, m1⟩ := hT.2 i sn c pl hli
  rw [e1] at hv
  cases hv
  rw [List.getElem?_map, hli] at hz
  cases hz
  exact ⟨rfl, sn, c, T, t1, t2, rfl, m1, hP _ (List.mem_of_getElem? hli)⟩
theorem nones {l : List (Str × Int × Int)} : (l.map fun _ => (none : Option Int)).filterMap id = [] := by
  induction l with
  | nil => rfl
  | cons a r ih => simpa using ih
end
theorem wd60 : True := by
  k_with "mine call ref" => ((k_here; (with_reducible show wpAny _ _ (call (Value.ref 476) _) _ _ _); k_dflt (refine' Spec.use8 (order_new _) ?k1 ?k2 ?k3 ?k4 ?k5 ?kK ?ks ?kd ?ku ?_; k_extra "my sides"; intro x' dx' es' n' h' tk' F' N' hne' hS' hP' hX'; (try dsimp only [OffN, OffP] at hne'); (try k_sweep); (try dsimp only))))
  k_with "mine call ref" => ((k_here; (with_reducible show wpAny _ _ (call (Value.ref 291) _) _ _ _); k_dflt (refine' Spec.use8 (pic_new _ _ _ _ _ _ _ _ _ _ _ _ _) ?k1 ?k2 ?k3 ?k4 ?k5 ?kK ?ks ?kd ?ku ?_; k_extra "my sides"; intro x' dx' es' n' h' tk' F' N' hne' hS' hP' hX'; (try dsimp only [OffN, OffP] at hne'); (try k_sweep); (try dsimp only))))
  k_with "mine call ref" => ((k_here; (with_reducible show wpAny _ _ (call (Value.ref 466) _) _ _ _); k_dflt (refine' Spec.useN (is_whole_spec _ _ _ _ _ ?c0q734 ?c1q734 ?c2q734 ?c3q734 ?c4q734) ?k1 ?k2 ?k3 ?k4 ?k5 ?kK ?ks ?kd ?ku ?_; (case c0q734 => assumption); (case c1q734 => assumption); (case c2q734 => assumption); (case c3q734 => assumption); (case c4q734 => rfl); k_extra "my sides"; intro h' tk' F' N'; (try k_sweep); (try dsimp only))))
  k_with "mine call ref" => ((k_here; (with_reducible show wpAny _ _ (call (Value.ref 473) _) _ _ _); k_dflt (refine' Spec.use0 (scale_spec _ _ _ _ _ ?c0q735 ?c1q735) ?k1 ?k2 ?k3 ?k4 ?k5 ?kK ?ks ?kd ?ku ?_; (case c0q735 => assumption); (case c1q735 => assumption); k_extra "my sides"; intro t' h' tk' F' N'; (try k_sweep); (try dsimp only))))
  k_with "mine call ref" => ((k_here; (with_reducible show wpAny _ _ (call (Value.ref 375) _) _ _ _); k_dflt (refine' Spec.use0 (digits_spec _ _ _ _ _ ?c0q736) ?k1 ?k2 ?k3 ?k4 ?k5 ?kK ?ks ?kd ?ku ?_; (case c0q736 => assumption); k_extra "my sides"; intro t' h' tk' F' N'; (try k_sweep); (try dsimp only))))
  k_with "mine call ref" => ((k_here; (with_reducible show wpAny _ _ (call (Value.ref 354) _) _ _ _); k_dflt (refine' Spec.use0 (size_of_symbols_nat _ _ _ _ _ _ _ ?c0q737 ?c1q737 ?c2q737 ?c3q737) ?k1 ?k2 ?k3 ?k4 ?k5 ?kK ?ks ?kd ?ku ?_; (case c0q737 => assumption); (case c1q737 => assumption); (case c2q737 => assumption); (case c3q737 => assumption); k_extra "my sides"; intro t' h' tk' F' N'; (try k_sweep); (try dsimp only))))
  trivial
section
theorem wd61 : True := by
  k_with "mine call ref" => ((k_here; (with_reducible show wpAny _ _ (call (Value.ref 349) _) _ _ _); refine Held.mk ?_))
  k_with "mine call ref" => ((k_here; (with_reducible show wpAny _ _ (call (Value.ref 459) _) _ _ _); refine Held.mk ?_))
  k_with "mine eval ListComp" => ((k_here; k_dflt (refine ListComp_pairs (F₀ := by k_asm) (by with_unfolding_all rfl) (by decide) (by rfl) (by decide) (by rfl) (by rfl) (by decide) ?_ (fun _ => rfl))))
  k_with "mine compareOp Eq ref ref" => ((k_here; (with_reducible show wpAny _ _ (compareOp CmpOp.Eq (Value.ref _) (Value.ref _)) _ _ _); k_dflt (refine' eq_nil_nil ?Nq741 ?aq741 ?bq741 ?uq741 ?_; (case Nq741 => k_asm); (case aq741 => k_mem); (case bq741 => k_mem); (case uq741 => k_extra "my units"))))
  trivial
theorem OffN.at {new : List (Addr × Obj)} {l : List (Addr × Obj)} (h : OffN new l) : ∀ q ∈ l, OffP new q.1 := by
  induction l with
  | nil => exact fun _ hq => nomatch hq
  | cons p r ih =>
    intro q hq
    rcases List.mem_cons.mp hq with rfl | hq
    · exact h.1
    · exact ih h.2 q hq
theorem number_picture_spec (w : World) (x : Str) (tx : Tok) (S : Addr) (l : List (Str × Int × Int)) (vs : List Value) (nS : Nat) (os : List (Addr × Obj)) (d sc sz : Nat) (pl : Bool) (se : Int) (pt : Str) (hS : SignsAre l vs os) (hA : Apart l) (hP : Plains l) (hl9 : l.length ≤ 4) (hok : OS.init.all l) (hfin : l.foldl OS.take OS.init = ⟨se, pl, pt, d, sc, Str.ofString "9"⟩)
    (h1 : 1 ≤ (d : Int)) (h2 : (d : Int) ≤ 18) (hsz : sizeOf l = (sz : Int)) (hsz9 : sz ≤ 100) (hxl : x.length ≤ 20) :
    Spec w (hd.heap_1 w.params) 485 [.str x tx, .ref S] ((S, W.listOf vs.toArray nS) :: os) 6 (fun v new => ∃ p dp es n, v = .ref p ∧ new = [(p, instObj 291 dp), (dp, dictOf es n)] ∧ PicIs es (Str.ofString "numeric") d sc sz pl ∧ True ∧ @LT.lt Nat _ dp p) := by
  unfold Spec
  intro dp un gd cn cs a ccd cl outer A₀ base h₀ L m mg mb mean news s Q E B F X N T hk hs hroom hun ret
  refine enterC (binds := [(Str.ofString "text", .str x tx), (Str.ofString "signs", .ref S)]) B F X N T rfl rfl hk hs (by k_is) (by k_is) (show dp < recursionLimit from Nat.lt_of_le_of_lt (Nat.le_add_right _ _) hroom) (BindsTo.of_eq rfl) (locs rfl) ret ?_ rfl rfl rfl (by decide)
  clear B F X N T ret hs
  intro g L' h₁ gs5 dr5 tk os5 F' N' B' X' T' l1
  (try dsimp only)
  show wpAny _ _ _ _ _ _
  k_fold
  k_extra "my steps"
  unfold Held
  rename News _ _ _ _ => hN
  obtain ⟨ox, rfl⟩ := name1 hN
  obtain ⟨od, rfl⟩ := name2 hN
  rename OrderIs _ _ _ _ _ _ _ => hO0
  rename NoMeth _ => hM0
  rename (_ ∧ OffN _ _) => hne0
  rename (_ ∧ @LT.lt Nat _ _ _) => hlx
  k_dflt (refine' Spec.use (symbols_of_spec w S l vs nS os hS hA hl9) ?k1 ?k2 ?k3 ?k4 ?k5 ?kK ?ks ?kd ?ku ?_)
  k_extra "my sides"
  intro v' new' h' tk' F1 N1 hne hP'
  obtain ⟨D, ts, k, tos, rfl, rfl, hT, htos⟩ := hP'
  obtain ⟨rest, hr⟩ : ∃ r, r = tos ++ os := ⟨_, rfl⟩
  have N2 : News g L' h' ((ox, instObj 476 od) :: (od, dictOf _ _) :: (D, W.listOf ts.toArray k) :: (S, W.listOf vs.toArray nS) :: rest) := fun p hp => N1 p (by
    subst hr
    rcases List.mem_cons.mp hp with rfl | hp
    · exact List.mem_append.mpr (.inr (List.Mem.head _))
    rcases List.mem_cons.mp hp with rfl | hp
    · exact List.mem_append.mpr (.inr (List.Mem.tail _ (List.Mem.head _)))
    rcases List.mem_cons.mp hp with rfl | hp
    · exact List.Mem.head _
    rcases List.mem_cons.mp hp with rfl | hp
    · exact List.mem_append.mpr (.inr (List.Mem.tail _ (List.Mem.tail _ (List.Mem.head _))))
    rcases List.mem_append.mp hp with hp | hp
    · exact List.mem_cons_of_mem _ (List.mem_append.mpr (.inl hp))
    · exact List.mem_append.mpr (.inr (List.mem_cons_of_mem _ (List.mem_cons_of_mem _ (List.mem_cons_of_mem _ hp)))))
  obtain ⟨⟨hoxS, hodS⟩, hos0⟩ := hne0
  replace hos0 := hos0.at
  have hro : OwnOff rest [od] := by
    subst hr
    intro p hp b hb
    rw [List.mem_singleton.mp hb]
    rcases List.mem_append.mp hp with hp | hp
    · exact hne (od, _) (List.Mem.tail _ (List.Mem.head _)) p (List.mem_cons_of_mem _ hp)
    · exact fun e => (hos0 p hp).2 e.symm
  have hDo : ¬ (@Eq Nat D od) := hne (od, _) (List.Mem.tail _ (List.Mem.head _)) _ (List.Mem.head _)
  clear N1 hN
  k_extra "my steps"
  rename Fr _ _ _ _ => hF
  rename News _ _ _ _ => hN
  refine For_invV g (by rfl) (by rfl) ?_ (fun _ => rfl)
  k_extra "my steps"
  refine kdl_iter (vs := vs) (nn := nS) (NumJ l S ox od D x tx vs nS ((D, W.listOf ts.toArray k) :: rest)) rfl (List.Mem.head _) hF (news := (S, W.listOf vs.toArray nS) :: (od, dictOf _ _) :: (ox, instObj 476 od) :: (D, W.listOf ts.toArray k) :: rest) (fun p hp => hN p (List.mem_cons_of_mem _ (by
    rcases List.mem_cons.mp hp with rfl | hp
    · exact List.Mem.tail _ (List.Mem.tail _ (List.Mem.tail _ (List.Mem.head _)))
    rcases List.mem_cons.mp hp with rfl | hp
    · exact List.Mem.tail _ (List.Mem.head _)
    rcases List.mem_cons.mp hp with rfl | hp
    · exact List.Mem.head _
    rcases List.mem_cons.mp hp with rfl | hp
    · exact List.Mem.tail _ (List.Mem.tail _ (List.Mem.head _))
    · exact List.mem_cons_of_mem _ (List.mem_cons_of_mem _ (List.mem_cons_of_mem _ (List.mem_cons_of_mem _ hp))))))
    ⟨_, _, _, known4 rfl rfl rfl rfl, rfl, hO0, hM0, hlx.1⟩ ?_ ?_
  · clear hF hN
    intro i v m₁ news₁ h tk own hv hoff hl hJ F₁ N₁
    obtain ⟨es, n, u, rfl, rfl, hO, hM, hle⟩ := hJ
    have hi : i < l.length := by
      have := (List.getElem?_eq_some_iff.mp hv).1
      rw [hS.1] at this; exact this
    obtain ⟨⟨sn, c, pl'⟩, hli⟩ : ∃ a, l[i]? = some a := ⟨_, List.getElem?_eq_getElem hi⟩
    obtain ⟨sx, sd, ss, k', e1, m1, m2, hSI, hfa⟩ := hS.2 i sn c pl' hli
    rw [e1] at hv
    cases hv
    have hok' := OS.all_at hok hli
    have hxS := hos0 _ m1
    have hdS := hos0 _ m2
    obtain ⟨rw9, hrw⟩ : ∃ r, r = (S, W.listOf vs.toArray nS) :: (D, W.listOf ts.toArray k) :: (rest ++ own) := ⟨_, rfl⟩
    have hrwo : OwnOff rw9 [od] := by
      subst hrw
      intro p hp b hb
      rw [List.mem_singleton.mp hb]
      rcases List.mem_cons.mp hp with rfl | hp
      · exact fun e => hodS e.symm
      rcases List.mem_cons.mp hp with rfl | hp
      · exact hDo
      rcases List.mem_append.mp hp with hp | hp
      · exact hro p hp od (List.mem_singleton.mpr rfl)
      · exact hoff p hp od (List.Mem.tail _ (List.Mem.head _))
    have hos1 : ∀ p ∈ os, p ∈ rest := fun p hp => hr ▸ List.mem_append.mpr (.inr hp)
    have N₂ : News g L' h ((od, dictOf es n) :: (ox, instObj 476 od) :: (sx, instObj 319 sd) :: (sd, dictOf ss k') :: rw9) := fun p hp => N₁ p (by
      rcases List.mem_cons.mp hp with rfl | hp
      · exact List.Mem.tail _ (List.Mem.head _)
      rcases List.mem_cons.mp hp with rfl | hp
      · exact List.Mem.tail _ (List.Mem.tail _ (List.Mem.head _))
      rcases List.mem_cons.mp hp with rfl | hp
      · exact List.mem_append.mpr (.inl (List.mem_cons_of_mem _ (List.mem_cons_of_mem _ (List.mem_cons_of_mem _ (List.mem_cons_of_mem _ (hos1 _ m1))))))
      rcases List.mem_cons.mp hp with rfl | hp
      · exact List.mem_append.mpr (.inl (List.mem_cons_of_mem _ (List.mem_cons_of_mem _ (List.mem_cons_of_mem _ (List.mem_cons_of_mem _ (hos1 _ m2))))))
      subst hrw
      rcases List.mem_cons.mp hp with rfl | hp
      · exact List.Mem.head _
      rcases List.mem_cons.mp hp with rfl | hp
      · exact List.Mem.tail _ (List.Mem.tail _ (List.Mem.tail _ (List.Mem.head _)))
      rcases List.mem_append.mp hp with hp | hp
      · exact List.mem_append.mpr (.inl (List.mem_cons_of_mem _ (List.mem_cons_of_mem _ (List.mem_cons_of_mem _ (List.mem_cons_of_mem _ hp)))))
      · exact List.mem_append.mpr (.inr hp))
    clear N₁
    have hmt := hM.take
    have hq1 : ¬ (@Eq Nat ox od) := by have : @LT.lt Nat _ od ox := hlx.2; (first | lia | omega)
    have hq2 : ¬ (@Eq Nat sx od) := fun e => hxS.2 e.symm
    have hq3 : ¬ (@Eq Nat sd od) := fun e => hdS.2 e.symm
    show wpAny _ _ _ _ _ _
    (try k_fold)
    have hMk := kstMark
    k_extra "my steps"
    unfold Held
    k_dflt (refine' SpecM.use (take_spec w ox od es n sx sd ss k' ((l.take i).foldl OS.take OS.init) (sn, c, pl') hO hM hle hok' hSI (fun e => hq1 e.symm) hxS.2 hdS.2) ?k1 ?k2 ?k3 ?k4 ?k5 ?kK ?kU ?ks ?kd ?ku ?_)
    (case k1 => k_asm)
    (case k2 => k_asm)
    (case k3 => k_asm)
    (case k4 => k_asm)
    (case k5 => k_asm)
    (case kK => first | assumption | exact rfl)
    (case kU => k_updF)
    (case ks => kcj_all)
    (case kd => ((try simp only [depth_mark, depth_under_make, depth_under_kw, depth_in1, depth_deeper]); (try dsimp only [ktrTop]); (first | lia | omega)))
    (case ku => ((try simp only [units_in1, units_deeper, Around.mark_units]); (try dsimp only [ktrTop]); (first | lia | omega)))
    intro v' o' h' tk' F' N' hP'
    obtain ⟨rfl, es', n', rfl, hO', hM', hl'⟩ := hP'
    (try dsimp only at N')
    (try dsimp only)
    k_extra "my steps"
    have et : (l.take (i + 1)).foldl OS.take OS.init = ((l.take i).foldl OS.take OS.init).take (sn, c, pl') := by rw [List.take_add_one, hli, List.foldl_append]; rfl
    refine InvEndG.intro (nx := (S, W.listOf vs.toArray nS) :: (od, dictOf es' n') :: (ox, instObj 476 od) :: (D, W.listOf ts.toArray k) :: rest) F' N' ⟨List.Mem.head _, es', n', _, known4 rfl rfl rfl rfl, rfl, by rw [et]; exact hO', hM', hl'⟩ hoff ?_ ?_
    · intro p hp
      subst hrw
      rcases List.mem_cons.mp hp with rfl | hp
      · exact List.Mem.tail _ (List.Mem.tail _ (List.Mem.tail _ (List.Mem.tail _ (List.Mem.head _))))
      rcases List.mem_cons.mp hp with rfl | hp
      · exact List.Mem.head _
      rcases List.mem_cons.mp hp with rfl | hp
      · exact List.Mem.tail _ (List.Mem.head _)
      refine List.mem_cons_of_mem _ (List.mem_cons_of_mem _ (List.mem_cons_of_mem _ (List.mem_cons_of_mem _ (List.mem_cons_of_mem _ ?_))))
      rcases List.mem_cons.mp hp with rfl | hp
      · exact List.Mem.head _
      · exact List.mem_cons_of_mem _ (List.mem_append.mpr (.inl hp))
    · intro p hp
      subst hrw
      exact List.mem_cons_of_mem _ (List.mem_cons_of_mem _ (List.mem_cons_of_mem _ (List.mem_cons_of_mem _ (List.mem_cons_of_mem _ (List.mem_cons_of_mem _ (List.mem_append.mpr (.inr hp)))))))
  · clear hF hN hO0 hM0
    intro m₁ news₁ h tk hJ F₁ N₁
    obtain ⟨es, n, u, rfl, rfl, hO, hM, hle⟩ := hJ
    rw [List.take_of_length_le (by rw [hS.1]; exact Nat.le_refl _), hfin] at hO
    have hT' : TupsAre l ts rest := hT.mono fun p hp => hr ▸ List.mem_append.mpr (.inl hp)
    clear hT
    have hO : OrderIs es se pl pt (d : Int) (sc : Int) (Str.ofString "9") := hO
    obtain ⟨m1, m2, m3, m4, m5, m6, m7⟩ := id hM
    obtain ⟨⟨t1, g1⟩, g2, ⟨t3, g3⟩, ⟨t4, g4⟩, ⟨t5, g5⟩, ⟨t6, g6⟩, ⟨t7, g7⟩, ⟨t8, g8⟩, ⟨t9, g9⟩, g10, ⟨t11, g11⟩, ⟨t12, g12⟩, g13⟩ := id hO
    (try dsimp only)
    show wpAny _ _ _ _ _ _
    (try k_fold)
    k_extra "my steps"
    rename Fr _ _ _ _ => hF
    rename News _ _ _ _ => hN
    refine ⟨D, ts, k, l.map fun _ => none, _, rfl, rfl, hF, hN, by k_mem, by rw [hT'.1]; (first | lia | omega), by rw [hT'.1]; exact List.length_map _, ?_, ?_⟩
    · intro s₂ hs₂ i v z hv hz
      obtain ⟨h9, rfl⟩ := hs₂
      obtain ⟨rfl, sn, c, T, t1, t2, rfl, mT, hc⟩ := tups_at hT' hP hv hz
      refine ⟨T, _, _, _, _, (by kcj_all : ∀ p ∈ rest, p ∈ _) _ mT, rfl, rfl, ?_⟩
      intro I oI C oC D' m₂ ys h tk E' hC hx1 hx2 F₂ N₂ off ne hMk
      have off9 := off
      clear hF hN
      simp only [LCg.Off3, and_true] at off
      rcases hc with rfl | rfl | rfl
      all_goals (
        (try dsimp only)
        show wpAny _ _ _ _ _ _
        k_fold
        k_extra "my steps"
        exact LCg.CompEnd.intro (by k_asm) (by k_asm) _ (by kcj_all) off9 trivial rfl)
    · intro s₂ hs₂ ys hy D' h tk F₂ N₂ off
      obtain ⟨h9, rfl⟩ := hs₂
      rw [nones] at hy
      cases hy
      have N₃ : News g L' h ((D', W.listOf #[] 0) :: _) := N₂
      clear hF hN N₂
      (try dsimp only)
      k_extra "my steps"
      all_goals (
        rename PicIs _ _ _ _ _ _ => hPic
        rename (@LT.lt Nat _ _ _) => hlt
        rename (_ ∧ _ ∧ (_ ∧ _) ∧ _ ∧ _ ∧ _ ∧ OffN _ _) => hne9
        obtain ⟨-, -, ⟨q1, q2⟩, -, -, -, q3⟩ := hne9
        replace q3 := q3.at
        show Ends _ _ _ _ _ _
        rename (pl = _) => hpl
        first
        | rw [show (Str.ofString "" != Str.ofString "") = false by decide, ← hpl] at hPic
        | skip
        refine Ends.intro [_, _] (by k_asm) (by k_asm) ?_ (by kcj_all) ?_ ⟨_, _, _, _, rfl, rfl, hPic, trivial, hlt⟩
        · intro p hp
          rcases List.mem_cons.mp hp with rfl | hp
          · k_mem
          · exact (by kcj_all : ∀ p ∈ rest, p ∈ _) _ (hr ▸ List.mem_append.mpr (.inr hp))
        · intro q hq p hp
          have hq' : q = (S, W.listOf vs.toArray nS) ∨ q ∈ rest := by
            rcases List.mem_cons.mp hq with rfl | hq
            · exact .inl rfl
            · exact .inr (hr ▸ List.mem_append.mpr (.inr hq))
          simp only [List.mem_cons, List.not_mem_nil, or_false] at hp
          rcases hq' with rfl | hq' <;> rcases hp with rfl | rfl
          · exact q1
          · exact q2
          · exact (q3 _ hq').1
          · exact (q3 _ hq').2)
end
theorem wd62 : True := by
  k_with_none
  k_with "my fold" => (((first | (with_reducible show wpAny _ _ (exec (PySem.Stmt.Assign _ _ _) _) _ _ _) | (with_reducible show wpAny _ _ (exec (PySem.Stmt.Return _ _) _) _ _ _) | (with_reducible show wpAny _ _ (exec (PySem.Stmt.If _ _ _ _) _) _ _ _) | (with_reducible show wpAny _ _ (exec (PySem.Stmt.Expr _ _) _) _ _ _) | (with_reducible show wpAny _ _ (exec (PySem.Stmt.AugAssign _ _ _ _) _) _ _ _) | (with_reducible show wpAny _ _ (eval (PySem.Expr.BinOp _ _ _ _) _) _ _ _) | (with_reducible show wpAny _ _ (eval (PySem.Expr.Call _ _ _ _) _) _ _ _)); (fail_if_success (fail_if_success k_fold)); refine (let qk := _; keepQ qk ?_)))
  k_with "my get" => (assumption)
  k_with "mine call type:range" => ((k_here; (rename Fr _ _ _ _ => F'); (rename News _ _ _ _ => N'); (with_unfolding_all refine range1_rows F' N' ?_; intro _ _ _ _ _ _ _ _ _)))
  k_with "my steps" => (repeat' (first | ((fail_if_success (fail_if_success k_unfold)); (try dsimp only); refine (?_ : wpAny _ _ _ _ _ _)) | (k_unfold; (try dsimp only)) | k_extra "my fold" | ((fail_if_success (with_reducible show wpAny _ _ (pyIter _) (fun it s₂ => LoopAtV _ _ _ _ _ _ _ _ _ it s₂) _ _)); (fail_if_success (with_reducible show wpAny _ _ (pyIter _) (fun it s₂ => PairAt3 _ _ _ _ _ _ _ _ _ _ it s₂) _ _)); (fail_if_success (with_reducible show LoopStep3 _ _ _ _ _ _ _ _ _ _)); (fail_if_success (with_reducible show InvEndN _ _ _ _ _ _ _)); (fail_if_success (with_reducible show Ends _ _ _ _ _ _)); first | walk1 | (dsimp only; walk1) | (dsimp only; k_unfold; (try dsimp only)))))
  k_with "my plain steps" => (repeat' (first | ((fail_if_success (fail_if_success k_unfold)); (try dsimp only); refine (?_ : wpAny _ _ _ _ _ _)) | (k_unfold; (try dsimp only)) | ((fail_if_success (with_reducible show wpAny _ _ (pyIter _) (fun it s₂ => LoopAtV _ _ _ _ _ _ _ _ _ it s₂) _ _)); (fail_if_success (with_reducible show wpAny _ _ (pyIter _) (fun it s₂ => PairAt3 _ _ _ _ _ _ _ _ _ _ it s₂) _ _)); (fail_if_success (with_reducible show LoopStep3 _ _ _ _ _ _ _ _ _ _)); (fail_if_success (with_reducible show InvEndN _ _ _ _ _ _ _)); (fail_if_success (with_reducible show Ends _ _ _ _ _ _)); first | walk1 | (dsimp only; walk1) | (dsimp only; k_unfold; (try dsimp only)))))
  k_with "my bytes" => (first | exact all48 (by assumption) | (refine all_cons (by decide) ?_; k_extra "my bytes") | (refine all_snoc (by decide) ?_; k_extra "my bytes"))
  k_with "my size" => (first | (first | lia | omega) | ((try simp only [List.length_map, List.length_cons, List.length_append, List.length_nil, List.length_set, List.length_reverse, lits_length, figs_length, stepKs_length]); (first | lia | omega)))
  k_with "mine call type:bytes" => ((k_here; (with_reducible show wpAny _ _ (call (Value.type "bytes") [Value.ref _]) _ _ _); k_dflt (refine' bytesOf_K ?Fq749 ?Nq749 ?mq749 ?iq749 ?rq749 ?zq749 ?hq749 ?_; (case Fq749 => k_asm); (case Nq749 => k_asm); (case mq749 => k_mem); (case iq749 => assumption); (case rq749 => k_extra "my bytes"); (case zq749 => k_extra "my size"); (case hq749 => exact rfl); k_whole); intro h' t' k' F' N'; (try k_sweep)))
  k_with "my bytes" => ((refine all_set (u8_in _) ?_; k_extra "my bytes"))
  k_with "my byte at" => ((refine fig_at (by assumption) ?_; k_extra "my size"))
  k_with "mine subscriptTail" => ((k_here; (with_reducible show wpAny _ _ (subscriptTail _ _ (Value.bytes _ _) (Value.int _ _)) _ _ _); k_dflt (refine' bytesItem_K ?aq752 ?bq752 ?_ ?hsq752 ?htq752; (case aq752 => k_extra "my byte at"); (case bq752 => decide); (case hsq752 => with_unfolding_all rfl); (case htq752 => intro _; with_unfolding_all rfl))))
  k_with "my index" => (first | (first | lia | omega) | decide | assumption)
  k_with "mine compareOp In" => ((k_here; (with_reducible show wpAny _ _ (compareOp CmpOp.In (Value.int _ _) (Value.bytes _ _)) _ _ _); k_dflt (refine' in_bytes ?aq754 ?bq754 ?_; (case aq754 => (first | lia | omega)); (case bq754 => (first | lia | omega)))))
  k_with "mine getMethod" => ((k_here; (with_reducible show wpAny _ _ (getMethod (Value.bytes _ _) "index" _) _ _ _); refine index_method ?_))
  k_with "mine call builtin:bytes.index" => ((k_here; (with_reducible show wpAny _ _ (call (Value.builtin "bytes.index") [Value.bytes _ _, Value.int _ _]) _ _ _); k_dflt (refine' bytes_index _ ?aq756 ?bq756 ?cq756 ?dq756 ?_; (case aq756 => (first | lia | omega)); (case bq756 => (first | lia | omega)); (case cq756 => decide); (case dq756 => assumption)); intro _ _; (try dsimp only)))
  k_with "mine subscriptTail" => ((k_here; (with_reducible show wpAny _ _ (subscriptTail _ _ (Value.bytes (byteArr _) _) (Value.int _ _)) _ _ _); k_dflt (refine' bytesInt_K ?aq757 ?bq757 ?rq757 ?zq757 ?_ ?hsq757 ?htq757; (case aq757 => (first | lia | omega)); (case bq757 => assumption); (case rq757 => first | assumption | k_extra "my bytes"); (case zq757 => k_extra "my size"); (case hsq757 => with_unfolding_all rfl); (case htq757 => intro _; with_unfolding_all rfl)); intro _ _; (try dsimp only)))
  k_with "my pick" => ((with_reducible first | exact kmk_upto (by l_ints) (by (first | lia | omega)) | exact kmk_from (by l_ints) (by (first | lia | omega)) | exact kmk_upto_neg (by l_ints) (by (first | lia | omega)) | exact kmk_from_neg (by l_ints) (by (first | lia | omega))))
  k_with "mine subscriptTail Name Slice ref ref" => ((k_here; (with_reducible show wpAny _ _ (subscriptTail _ (PySem.Expr.Slice _ _ none _) (Value.ref _) (Value.ref _)) _ _ _); k_dflt (refine' kmk_slice_ints ?Fq759 ?Nq759 ?lq759 ?pq759 ?qq759 ?iq759 ?mq759 ?cq759 ?_ ?sq759 ?tq759 ?zq759; (case Fq759 => k_asm); (case Nq759 => k_asm); (case lq759 => kmk_list); (case pq759 => kmk_part); (case qq759 => kmk_part); (case iq759 => l_ints); (case mq759 => k_extra "my pick"); (case cq759 => kmk_len); (case sq759 => with_unfolding_all rfl); (case tq759 => kmk_pure); (case zq759 => kmk_size)); intro D' ws' h' F' N' l1 hI' hC' hL'; (try k_lt l1); (try k_sweep)))
  k_with "my ints" => (first | l_ints | exact IntsAre.cons _ _ IntsAre.nil | exact IntsAre.cons _ _ (IntsAre.cons _ _ IntsAre.nil))
  k_with "mine binaryOp Add ref ref" => ((k_here; (with_reducible show wpAny _ _ (binaryOp _ (Value.ref _) (Value.ref _)) _ _ _); k_dflt (refine' kmk_add_ints ?Fq761 ?Nq761 ?aq761 ?bq761 ?iq761 ?jq761 ?_ ?zq761; (case Fq761 => k_asm); (case Nq761 => k_asm); (case aq761 => kmk_list); (case bq761 => kmk_list); (case iq761 => k_extra "my ints"); (case jq761 => k_extra "my ints"); (case zq761 => first | ((simp only [sizeLine_eq]); k_extra "my size") | kmk_sum)); intro D' ws' h' F' N' l1 hI'; (try k_lt l1); (try k_sweep)))
  k_with "mine call builtin:len" => ((k_here; (with_reducible show wpAny _ _ (call (Value.builtin "len") [Value.bytes (byteArr _) _]) _ _ _); k_dflt (refine' len_byteArr ?zq762 ?_; (case zq762 => k_extra "my size")); intro _ _; (try dsimp only)))
  k_with "mine call builtin:ord" => ((k_here; (with_reducible show wpAny _ _ (call (Value.builtin "ord") [Value.str _ _]) _ _ _); refine ord_of_char ?_; (try dsimp only)))
  k_with "my text slice" => (((with_reducible rename Fr _ _ _ _ => F'); (with_reducible rename News _ _ _ _ => N'); first | ((with_reducible show wpAny _ _ (subscriptTail _ (Expr.Slice none (some _) none _) _ _) _ _ _); (refine slice_strN_ns_len (hsz := ?hszq764) (s := ⟨_, _, _, _, _⟩) F' N' ?_); (case hszq764 => rw [sizeLine_eq]; (first | lia | omega))) | ((with_reducible show wpAny _ _ (subscriptTail _ (Expr.Slice (some _) none none _) _ _) _ _ _); (refine slice_strN_sn_len (hsz := ?hszq764) (s := ⟨_, _, _, _, _⟩) F' N' ?_); (case hszq764 => rw [sizeLine_eq]; (first | lia | omega)))))
  k_with "my units" => (((try simp only [units_in1, units_deeper, Around.mark_units]); (try dsimp only [ktrTop]); (first | lia | omega)))
  k_with "my tail" => ((first | assumption | (refine' And.right ?_; first | assumption | (refine' And.right ?_; first | assumption | (refine' And.right ?_; first | assumption | (refine' And.right ?_; first | assumption | (refine' And.right ?_; first | assumption | (refine' And.right ?_; first | assumption | (refine' And.right ?_; first | assumption | (refine' And.right ?_; first | assumption | (refine' And.right ?_; assumption)))))))))))
  k_with "my conj" => (first | k_extra "my tail" | (refine' And.left ?_; k_extra "my tail") | (refine' And.left ?_; refine' And.left ?_; k_extra "my tail") | (refine' And.right ?_; refine' And.left ?_; k_extra "my tail"))
  k_with "my ne" => ((refine neN ?_; (try dsimp only); first | (refine' Nat.ne_of_lt ?_; k_extra "my conj") | (refine' Nat.ne_of_gt ?_; k_extra "my conj") | k_extra "my conj" | (refine' Ne.symm ?_; k_extra "my conj") | (first | lia | omega)))
  k_with "my sides" => (((case k1 => k_asm); (case k2 => k_asm); (case k3 => k_asm); (case k4 => k_asm); (case k5 => k_asm); (case kK => first | assumption | exact rfl); (case ks => kcj_all); (case kd => first | ((try simp only [depth_mark, depth_under_make, depth_under_kw, depth_in1, depth_deeper]); (try dsimp only [ktrTop]); first | (refine' room3 ?hhq769 ?llq769; (case hhq769 => assumption); (case llq769 => exact Nat.le_of_ble_eq_true rfl)) | (first | lia | omega)) | (with_unfolding_all exact Nat.le_of_ble_eq_true rfl)); (case ku => first | ((try simp only [units_in1, units_deeper, Around.mark_units]); (try dsimp only [ktrTop]); first | (refine' room3 ?hhq769 ?llq769; (case hhq769 => assumption); (case llq769 => exact Nat.le_of_ble_eq_true rfl)) | (first | lia | omega)) | (with_unfolding_all exact Nat.le_of_ble_eq_true rfl))))
  trivial
section
theorem join_chars : ∀ (l : List Nat), Str.join (Str.ofString "") (l.map fun c => (⟨#[c]⟩ : Str)) = ⟨l.toArray⟩
  | [] => rfl
  | [c] => rfl
  | c :: d :: r => by
    have ih := join_chars (d :: r)
    have e : ∀ a b : Str, a.cps.toList = b.cps.toList → a = b := fun a b h => congrArg Str.mk (Array.toList_inj.mp h)
    show (⟨#[c]⟩ : Str) ++ Str.ofString "" ++ Str.join (Str.ofString "") ((d :: r).map fun c => (⟨#[c]⟩ : Str)) = _
    rw [ih]
    have e0 : Str.ofString "" = ⟨#[]⟩ := by decide
    apply e
    rw [KT.app_list, KT.app_list, e0]
    simp
theorem join_same {x : Str} : Txt.join (Str.ofString "") (x.cps.toList.map fun c => (⟨#[c]⟩ : Str)) = x := by
  have h := (StrLaws.glued_eq_join (Str.ofString "") (x.cps.toList.map fun c => (⟨#[c]⟩ : Str))).trans (join_chars x.cps.toList)
  rw [Array.toArray_toList] at h
  exact h
theorem strs_snoc {y : Str} {t : Tok} : ∀ {vs : List Value} {ys : List Str}, StrsAre vs ys → StrsAre (vs ++ [Value.str y t]) (ys ++ [y])
  | _, _, .nil => .cons y t .nil
  | _, _, .cons z u r => .cons z u (strs_snoc r)
section
variable {prog : Program} {w : World} {A : Around} {E : Value → Shared → Prop} {s : Shared} {h₀ : Heap} {L : Addr} {m : Str → Option Value} {env : Env}
theorem text_sameR {elt : PySem.Expr} {x : Str} {scope : Scope} {cl : List (Str × Addr)} {S : List (Addr × Obj) → Prop} {P : Nat → Value → Prop} {Fin : List Value → List (Addr × Obj) → Prop} {news : List (Addr × Obj)} {cs : List Nat}
    (hP : ∀ i v, i < cs.length → P i v → ∃ c t, cs[i]? = some c ∧ v = Value.str ⟨#[c]⟩ t)
    (turn : ∀ c t I oI C oC D m₂ ys h tk (E' : Value → Shared → Prop), c ∈ cs → LCg.NsObj oC m₂ → m₂ x = some (.str ⟨#[c]⟩ t) → Fr h₀ L h m → News h₀ L h ((I, oI) :: (C, oC) :: (D, LCg.lst ys) :: news) → LCg.Off3 I C D news → ((@Ne Nat I C) ∧ (@Ne Nat I D) ∧ (@Ne Nat C D)) → KPfMark →
      wpAny (model prog w) A (eval elt (compEnvC scope cl C env)) (LCg.CompEnd h₀ L m { s with heap := h, toks := tk } I oI C oC D (LCg.lst ys) S (fun y news' => KCtEl news ⟨#[c]⟩ y news')) E' { s with heap := h, toks := tk })
    (fin : ∀ ys, StrsAre ys (cs.map fun c => (⟨#[c]⟩ : Str)) → Fin ys news) : LCg.CompRest prog w A h₀ L m env elt x scope cl s S P Fin cs.length 0 [] news := by
  have key : ∀ (j i : Nat) (ys : List Value), i + j = cs.length → StrsAre ys ((cs.take i).map fun c => (⟨#[c]⟩ : Str)) → LCg.CompRest prog w A h₀ L m env elt x scope cl s S P Fin j i ys news := by
    intro j
    induction j with
    | zero =>
      intro i ys hi hy
      have e : i = cs.length := by (first | lia | omega)
      subst e
      rw [List.take_length] at hy
      exact LCg.CompRest.zero (fin ys hy)
    | succ j ih =>
      intro i ys hi hy
      refine LCg.CompRest.succ ?_
      intro v I oI C oC D m₂ h tk E' hv hC hx F N off ne
      obtain ⟨c, t, hc, rfl⟩ := hP i v (by (first | lia | omega)) hv
      refine wpAny_mono (turn c t I oI C oC D m₂ ys h tk E' (List.mem_of_getElem? hc) hC hx F N off ne True.intro) (fun y s₂ hq => ?_) fun _ _ e => e
      obtain ⟨h', tk', nw, e, F', N', off', hS, hn, t', hy'⟩ := hq
      rw [hn] at N' off' hS
      refine ⟨h', tk', news, e, F', N', off', hS, ?_⟩
      rw [hy']
      refine ih (i + 1) _ (by (first | lia | omega)) ?_
      rw [List.take_add_one, hc]
      simpa using strs_snoc hy
  exact key cs.length 0 [] (by (first | lia | omega)) (by simp only [List.take_zero, List.map_nil]; exact .nil)
theorem TextSrc.same {elt : PySem.Expr} {x : Str} {scope : Scope} {cl : List (Str × Addr)} {Fin : Shared → List Value → List (Addr × Obj) → Prop} {y : Str} {ty : Tok} {news : List (Addr × Obj)} {s₁ : Shared}
    (hh : A.handled = none) (F : Fr h₀ L s₁.heap m) (N : News h₀ L s₁.heap news) (hsz : y.length ≤ 1000) (ha : ∀ k ∈ y.cps.toList, k < 128)
    (turn : ∀ s₂ : Shared, (∃ h, s₂ = { s₁ with heap := h }) → ∀ c t I oI C oC D m₂ ys h tk (E' : Value → Shared → Prop), c ∈ y.cps.toList → LCg.NsObj oC m₂ → m₂ x = some (.str ⟨#[c]⟩ t) → Fr h₀ L h m → News h₀ L h ((I, oI) :: (C, oC) :: (D, LCg.lst ys) :: news) → LCg.Off3 I C D news → ((@Ne Nat I C) ∧ (@Ne Nat I D) ∧ (@Ne Nat C D)) → KPfMark →
      wpAny (model prog w) A (eval elt (compEnvC scope cl C env)) (LCg.CompEnd h₀ L m { s₂ with heap := h, toks := tk } I oI C oC D (LCg.lst ys) (fun _ => True) (fun v news' => KCtEl news ⟨#[c]⟩ v news')) E' { s₂ with heap := h, toks := tk })
    (fin : ∀ s₂ : Shared, (∃ h, s₂ = { s₁ with heap := h }) → ∀ ys, StrsAre ys (y.cps.toList.map fun c => (⟨#[c]⟩ : Str)) → Fin s₂ ys news) : TextSrc prog w A h₀ L m env elt x scope cl Fin (.str y ty) s₁ := by
  refine ⟨y, ty, news, rfl, hh, F, N, (by rw [sizeLine_eq]; exact Nat.le_trans hsz (by decide)), ?_, fun s₂ e => ?_⟩
  · rw [Array.all_eq_true']
    intro c hc
    exact decide_eq_true (ha c (Array.mem_toList_iff.mpr hc))
  · have hn : y.cps.size = y.cps.toList.length := by simp
    rw [hn]
    refine text_sameR (fun i v _ hv => ?_) (turn s₂ e) (fin s₂ e)
    obtain ⟨c, t, hc, rfl⟩ := hv
    exact ⟨c, t, by rw [Array.getElem?_toList]; exact hc, rfl⟩
theorem le_no {x y : Str} {t u : Tok} {Q : Value → Shared → Prop} (hb : (!decide (y.cps.toList < x.cps.toList)) = false) (h : Q (.bool false) s) : wpAny (model prog w) A (compareOp .LtE (.str x t) (.str y u)) Q E s :=
  P.le_str (by rw [hb]; exact h)
end
theorem low_char {c : Nat} (h : c < 97) : (!decide ((⟨#[c]⟩ : Str).cps.toList < (Str.ofString "a").cps.toList)) = false := by
  have key : ∀ c, c < 97 → (!decide ((⟨#[c]⟩ : Str).cps.toList < (Str.ofString "a").cps.toList)) = false := by decide +kernel
  exact key c h
theorem chars_sum (l : List Nat) : ((l.map fun c => (⟨#[c]⟩ : Str)).map (·.length)).sum + (l.map fun c => (⟨#[c]⟩ : Str)).length = 2 * l.length := by
  induction l with
  | nil => rfl
  | cons a r ih =>
    simp only [List.map_cons, List.sum_cons, List.length_cons] at *
    have : (⟨#[a]⟩ : Str).length = 1 := rfl
    (first | lia | omega)
theorem join_text {prog : Program} {w : World} {A : Around} {E : Value → Shared → Prop} {s : Shared} {h₀ : Heap} {L D : Addr} {news : List (Addr × Obj)} {Q : Value → Shared → Prop} {x : Str} {ys : List Value} {t : Tok} {k : Nat} (N : News h₀ L s.heap news) (hm : (D, W.listOf ys.toArray k) ∈ news)
    (hy : StrsAre ys (x.cps.toList.map fun c => (⟨#[c]⟩ : Str))) (hx : x.length ≤ 1000) (h : ∀ t' k, Q (.str x t') { s with toks := k }) : wpAny (model prog w) A (call (.builtin "str.join") [.str (Str.ofString "") t, .ref D]) Q E s := by
  refine join_listW ⟨_, (N _ hm).1, rfl, _, rfl⟩ (by simpa using hy) (by decide) ?_ ?_
  · rw [chars_sum]
    have : x.cps.toList.length = x.length := by simp [Str.length]
    (first | lia | omega)
  · rw [join_same]; exact h
theorem ListComp_refs {prog : Program} {w : World} {A : Around} {E : Value → Shared → Prop} {s : Shared} {h₀ : Heap} {L : Addr} {m : Str → Option Value} {env : Env} {ct elt iter : PySem.Expr} {x : Str} {px : Pos} {scope : Scope} {cl : List (Str × Addr)} {pos : Pos} {Q : Value → Shared → Prop} (F₀ : Fr h₀ L s.heap m)
    (hclos : closureFor scope env = pure cl) (hcell : ∀ y ∈ scope.names, y.2 ≠ .cell) (hkind : scope.kind = .function)
    (hnames : ∀ y ∈ scope.names, y.2 = .local → scope.names.lookup y.1 = some .local) (hx : scope.names.lookup x = some .local)
    (h : wpAny (model prog w) A (eval iter env) (fun v s' => Held (LCt.CompSrcT prog w A h₀ L m env ct elt x scope cl (fun s₂ => LCg.FinE h₀ L m s₂ Q) v s')) E s)
    (hs : ∀ x, foldedSetIterable iter env x = pure x) :
    wpAny (model prog w) A (eval (.ListComp elt [⟨.Name x px, iter, [ct], 0⟩] scope pos) env) Q E s := LCt.ListComp_T F₀ hclos hcell hkind hnames hx h hs
end
theorem wd63 : True := by
  k_with "mine call ref" => ((k_here; (with_reducible show wpAny _ _ (call (Value.ref 485) _) _ _ _); k_dflt (refine' Spec.use8 (number_picture_spec _ _ _ _ _ _ _ _ _ _ _ _ _ _ ?c0q770 ?c1q770 ?c2q770 ?c3q770 ?c4q770 ?c5q770 ?c6q770 ?c7q770 ?c8q770 ?c9q770 ?c10q770) ?k1 ?k2 ?k3 ?k4 ?k5 ?kK ?ks ?kd ?ku ?_; (case c0q770 => assumption); (case c1q770 => assumption); (case c2q770 => assumption); (case c3q770 => assumption); (case c4q770 => assumption); (case c5q770 => assumption); (case c6q770 => assumption); (case c7q770 => assumption); (case c8q770 => assumption); (case c9q770 => assumption); (case c10q770 => assumption); k_extra "my sides"; intro x' dx' es' n' h' tk' F' N' hne' hS' hP' hX'; (try dsimp only [OffN, OffP] at hne'); (try k_sweep); (try dsimp only))))
  k_with "mine compareOp NotEq ref ref" => ((k_here; (with_reducible show wpAny _ _ (compareOp CmpOp.NotEq (Value.ref _) (Value.ref _)) _ _ _); first | k_dflt (refine' ne_nil_nil ?Nq771 ?aq771 ?bq771 ?uq771 ?_; (case Nq771 => k_asm); (case aq771 => k_mem); (case bq771 => k_mem); (case uq771 => k_extra "my units")) | k_dflt (refine' ne_some_nil ?Nq771 ?aq771 ?bq771 ?vq771 ?uq771 ?_; (case Nq771 => k_asm); (case aq771 => k_mem); (case bq771 => k_mem); (case vq771 => simp); (case uq771 => k_extra "my units"))))
  trivial
section
theorem wd64 : True := by
  k_with "mine call ref" => ((k_here; (with_reducible show wpAny _ _ (call (Value.ref 342) _) _ _ _); refine Held.mk ?_))
  k_with "mine eval ListComp" => ((k_here; refine Held.mk ?_))
  k_with "mine compareOp LtE str str" => ((k_here; k_dflt (refine' le_no ?aq774 ?_; (case aq774 => assumption))))
  k_with "mine call builtin:str.join" => ((k_here; refine Held.mk ?_))
  trivial
theorem read_picture_spec (w : World) (x : Str) (tx : Tok) (l : List (Str × Int × Int)) (d sc sz : Nat) (pl : Bool) (se : Int) (pt : Str) (hxl : x.length ≤ 20) (hlow : ∀ k ∈ x.cps.toList, k < 97) (hscan : Scan x 0 l) (hA : Apart l) (hP : Plains l) (hl9 : l.length ≤ 4) (hok : OS.init.all l) (hfin : l.foldl OS.take OS.init = ⟨se, pl, pt, d, sc, Str.ofString "9"⟩)
    (h1 : 1 ≤ (d : Int)) (h2 : (d : Int) ≤ 18) (hsz : sizeOf l = (sz : Int)) (hsz9 : sz ≤ 100) :
    Spec w (hd.heap_1 w.params) 502 [.str x tx] [] 8 (fun v new => ∃ p dp es n, v = .ref p ∧ new = [(p, instObj 291 dp), (dp, dictOf es n)] ∧ PicIs es (Str.ofString "numeric") d sc sz pl ∧ True ∧ @LT.lt Nat _ dp p) := by
  unfold Spec
  intro dp un gd cn cs a ccd cl outer A₀ base h₀ L m mg mb mean news s Q E B F X N T hk hs hroom hun ret
  refine enterC (binds := [(Str.ofString "text", .str x tx)]) B F X N T rfl rfl hk hs (by k_is) (by k_is) (show dp < recursionLimit from Nat.lt_of_le_of_lt (Nat.le_add_right _ _) hroom) (BindsTo.of_eq rfl) (locs rfl) ret ?_ rfl rfl rfl (by decide)
  clear B F X N T ret hs
  intro g L' h₁ gs5 dr5 tk os5 F' N' B' X' T' l1
  (try dsimp only)
  show wpAny _ _ _ _ _ _
  k_fold
  k_extra "my steps"
  unfold Held
  refine ListComp_text (F₀ := by k_asm) (by with_unfolding_all rfl) (by decide) (by rfl) (by decide) (by rfl) ?_ (fun _ => rfl)
  k_extra "my steps"
  rename Fr _ _ _ _ => hF
  rename News _ _ _ _ => hN
  refine TextSrc.same rfl hF hN (by (first | lia | omega)) (fun k hk => by have := hlow k hk; (first | lia | omega)) ?_ ?_
  · intro s₂ hs₂ c t I oI C oC D m₂ ys h tk E' hk hC hx F₂ N₂ off ne hMk
    obtain ⟨h9, rfl⟩ := hs₂
    have hlo := low_char (hlow c hk)
    clear hF hN
    simp only [LCg.Off3, and_true] at off
    (try dsimp only)
    show wpAny _ _ _ _ _ _
    k_fold
    k_extra "my steps"
  · intro s₂ hs₂ ys hy D h tk F₂ N₂ off
    obtain ⟨h9, rfl⟩ := hs₂
    clear hF hN
    (try dsimp only)
    (try k_fold)
    k_extra "my steps"
    unfold Held
    show wpAny _ _ (call (Value.builtin "str.join") [Value.str _ _, Value.ref D]) _ _ _
    refine join_text N₂ (List.Mem.head _) hy (by (first | lia | omega)) ?_
    intro t9 k9
    clear N₂
    have N₃ : News g L' h [] := fun _ h => nomatch h
    (try dsimp only)
    k_extra "my steps"
    unfold Held
    k_dflt (refine' Spec.use (signs_of_spec w x l _ hxl hscan hl9) ?k1 ?k2 ?k3 ?k4 ?k5 ?kK ?ks ?kd ?ku ?_)
    k_extra "my sides"
    intro v' new' h' tk' F1 N1 hne hP'
    obtain ⟨S, vs, n, os, rfl, rfl, hS, hoS⟩ := hP'
    have N2 : News g L' h' ((S, W.listOf vs.toArray n) :: os) := fun p hp => N1 p (List.mem_append.mpr (.inl hp))
    clear N1
    (try dsimp only)
    show wpAny _ _ _ _ _ _
    (try k_fold)
    k_extra "my steps"
    unfold Held
    refine ListComp_refs (F₀ := by k_asm) (by with_unfolding_all rfl) (by decide) (by rfl) (by decide) (by rfl) ?_ (fun _ => rfl)
    k_extra "my steps"
    unfold Held
    rename Fr _ _ _ _ => hF
    rename News _ _ _ _ => hN
    refine LCt.CompSrcT.ledger (its := vs.toArray) rfl hF hN (List.Mem.head _) (by rw [sizeLine_eq, List.size_toArray, hS.1]; (first | lia | omega)) ?_
    intro g'
    refine rest_none ?_ _ 0 ?_
    · intro D h tk F₂ N₂ off
      have N₃ : News g L' h ((D, W.listOf #[] 0) :: (S, W.listOf vs.toArray n) :: os) := N₂
      clear hF hN N₂
      (try dsimp only)
      k_extra "my steps"
      rename PicIs _ _ _ _ _ _ => hPic
      rename (@LT.lt Nat _ _ _) => hlt
      show Ends _ _ _ _ _ _
      refine Ends.intro [_, _] (by k_asm) (by k_asm) (fun _ h => nomatch h) (by kcj_all) (fun _ h => nomatch h) ⟨_, _, _, _, rfl, rfl, hPic, trivial, hlt⟩
    · intro i v I oI C oC D m₂ h tk E' h1 h2 hv hC hx F₂ N₂ off ne hMk
      have hv' : vs[i]? = some v := by simpa using hv
      have hi : i < l.length := by
        have := (List.getElem?_eq_some_iff.mp hv').1
        rw [hS.1] at this; exact this
      obtain ⟨⟨sn, c, pl'⟩, hli⟩ : ∃ a, l[i]? = some a := ⟨_, List.getElem?_eq_getElem hi⟩
      obtain ⟨sx, sd, ss, k', e1, m1, m2, ⟨⟨t3, hg1⟩, ⟨t4, hg2⟩, ⟨t5, hg3⟩⟩, hfa⟩ := hS.2 i sn c pl' hli
      rw [e1] at hv'
      cases hv'
      have off9 := off
      have N₃ : News g L' h ((sx, instObj 319 sd) :: (sd, dictOf ss k') :: (I, oI) :: (C, oC) :: (D, LCg.lst []) :: (S, W.listOf vs.toArray n) :: os) := fun p hp => N₂ p (by
        rcases List.mem_cons.mp hp with rfl | hp
        · exact List.mem_cons_of_mem _ (List.mem_cons_of_mem _ (List.mem_cons_of_mem _ (List.mem_cons_of_mem _ m1)))
        rcases List.mem_cons.mp hp with rfl | hp
        · exact List.mem_cons_of_mem _ (List.mem_cons_of_mem _ (List.mem_cons_of_mem _ (List.mem_cons_of_mem _ m2)))
        · exact hp)
      clear hF hN N₂
      simp only [LCg.Off3, and_true] at off
      rcases hP _ (List.mem_of_getElem? hli) with rfl | rfl | rfl
      all_goals (
        (try dsimp only)
        show wpAny _ _ _ _ _ _
        (try k_fold)
        k_extra "my steps"
        exact LCg.CompEnd.intro (by k_asm) (by k_asm) _ (by kcj_all) off9 (.inr ⟨_, List.Mem.head _, rfl, _, rfl⟩) rfl)
end
theorem wd65 : True := by
  k_with_none
  k_with "my fold" => (((first | (with_reducible show wpAny _ _ (exec (PySem.Stmt.Assign _ _ _) _) _ _ _) | (with_reducible show wpAny _ _ (exec (PySem.Stmt.Return _ _) _) _ _ _) | (with_reducible show wpAny _ _ (exec (PySem.Stmt.If _ _ _ _) _) _ _ _) | (with_reducible show wpAny _ _ (exec (PySem.Stmt.Expr _ _) _) _ _ _) | (with_reducible show wpAny _ _ (exec (PySem.Stmt.AugAssign _ _ _ _) _) _ _ _) | (with_reducible show wpAny _ _ (eval (PySem.Expr.BinOp _ _ _ _) _) _ _ _) | (with_reducible show wpAny _ _ (eval (PySem.Expr.Call _ _ _ _) _) _ _ _)); (fail_if_success (fail_if_success k_fold)); refine (let qk := _; keepQ qk ?_)))
  k_with "my get" => (assumption)
  k_with "mine call type:range" => ((k_here; (rename Fr _ _ _ _ => F'); (rename News _ _ _ _ => N'); (with_unfolding_all refine range1_rows F' N' ?_; intro _ _ _ _ _ _ _ _ _)))
  k_with "my steps" => (repeat' (first | ((fail_if_success (fail_if_success k_unfold)); (try dsimp only); refine (?_ : wpAny _ _ _ _ _ _)) | (k_unfold; (try dsimp only)) | k_extra "my fold" | ((fail_if_success (with_reducible show wpAny _ _ (pyIter _) (fun it s₂ => LoopAtV _ _ _ _ _ _ _ _ _ it s₂) _ _)); (fail_if_success (with_reducible show wpAny _ _ (pyIter _) (fun it s₂ => PairAt3 _ _ _ _ _ _ _ _ _ _ it s₂) _ _)); (fail_if_success (with_reducible show LoopStep3 _ _ _ _ _ _ _ _ _ _)); (fail_if_success (with_reducible show InvEndN _ _ _ _ _ _ _)); (fail_if_success (with_reducible show Ends _ _ _ _ _ _)); first | walk1 | (dsimp only; walk1) | (dsimp only; k_unfold; (try dsimp only)))))
  k_with "my plain steps" => (repeat' (first | ((fail_if_success (fail_if_success k_unfold)); (try dsimp only); refine (?_ : wpAny _ _ _ _ _ _)) | (k_unfold; (try dsimp only)) | ((fail_if_success (with_reducible show wpAny _ _ (pyIter _) (fun it s₂ => LoopAtV _ _ _ _ _ _ _ _ _ it s₂) _ _)); (fail_if_success (with_reducible show wpAny _ _ (pyIter _) (fun it s₂ => PairAt3 _ _ _ _ _ _ _ _ _ _ it s₂) _ _)); (fail_if_success (with_reducible show LoopStep3 _ _ _ _ _ _ _ _ _ _)); (fail_if_success (with_reducible show InvEndN _ _ _ _ _ _ _)); (fail_if_success (with_reducible show Ends _ _ _ _ _ _)); first | walk1 | (dsimp only; walk1) | (dsimp only; k_unfold; (try dsimp only)))))
  k_with "my bytes" => (first | exact all48 (by assumption) | (refine all_cons (by decide) ?_; k_extra "my bytes") | (refine all_snoc (by decide) ?_; k_extra "my bytes"))
  k_with "my size" => (first | (first | lia | omega) | ((try simp only [List.length_map, List.length_cons, List.length_append, List.length_nil, List.length_set, List.length_reverse, lits_length, figs_length, stepKs_length]); (first | lia | omega)))
  k_with "mine call type:bytes" => ((k_here; (with_reducible show wpAny _ _ (call (Value.type "bytes") [Value.ref _]) _ _ _); k_dflt (refine' bytesOf_K ?Fq783 ?Nq783 ?mq783 ?iq783 ?rq783 ?zq783 ?hq783 ?_; (case Fq783 => k_asm); (case Nq783 => k_asm); (case mq783 => k_mem); (case iq783 => assumption); (case rq783 => k_extra "my bytes"); (case zq783 => k_extra "my size"); (case hq783 => exact rfl); k_whole); intro h' t' k' F' N'; (try k_sweep)))
  k_with "my bytes" => ((refine all_set (u8_in _) ?_; k_extra "my bytes"))
  k_with "my byte at" => ((refine fig_at (by assumption) ?_; k_extra "my size"))
  k_with "mine subscriptTail" => ((k_here; (with_reducible show wpAny _ _ (subscriptTail _ _ (Value.bytes _ _) (Value.int _ _)) _ _ _); k_dflt (refine' bytesItem_K ?aq786 ?bq786 ?_ ?hsq786 ?htq786; (case aq786 => k_extra "my byte at"); (case bq786 => decide); (case hsq786 => with_unfolding_all rfl); (case htq786 => intro _; with_unfolding_all rfl))))
  k_with "my index" => (first | (first | lia | omega) | decide | assumption)
  k_with "mine compareOp In" => ((k_here; (with_reducible show wpAny _ _ (compareOp CmpOp.In (Value.int _ _) (Value.bytes _ _)) _ _ _); k_dflt (refine' in_bytes ?aq788 ?bq788 ?_; (case aq788 => (first | lia | omega)); (case bq788 => (first | lia | omega)))))
  k_with "mine getMethod" => ((k_here; (with_reducible show wpAny _ _ (getMethod (Value.bytes _ _) "index" _) _ _ _); refine index_method ?_))
  k_with "mine call builtin:bytes.index" => ((k_here; (with_reducible show wpAny _ _ (call (Value.builtin "bytes.index") [Value.bytes _ _, Value.int _ _]) _ _ _); k_dflt (refine' bytes_index _ ?aq790 ?bq790 ?cq790 ?dq790 ?_; (case aq790 => (first | lia | omega)); (case bq790 => (first | lia | omega)); (case cq790 => decide); (case dq790 => assumption)); intro _ _; (try dsimp only)))
  k_with "mine subscriptTail" => ((k_here; (with_reducible show wpAny _ _ (subscriptTail _ _ (Value.bytes (byteArr _) _) (Value.int _ _)) _ _ _); k_dflt (refine' bytesInt_K ?aq791 ?bq791 ?rq791 ?zq791 ?_ ?hsq791 ?htq791; (case aq791 => (first | lia | omega)); (case bq791 => assumption); (case rq791 => first | assumption | k_extra "my bytes"); (case zq791 => k_extra "my size"); (case hsq791 => with_unfolding_all rfl); (case htq791 => intro _; with_unfolding_all rfl)); intro _ _; (try dsimp only)))
  k_with "my pick" => ((with_reducible first | exact kmk_upto (by l_ints) (by (first | lia | omega)) | exact kmk_from (by l_ints) (by (first | lia | omega)) | exact kmk_upto_neg (by l_ints) (by (first | lia | omega)) | exact kmk_from_neg (by l_ints) (by (first | lia | omega))))
  k_with "mine subscriptTail Name Slice ref ref" => ((k_here; (with_reducible show wpAny _ _ (subscriptTail _ (PySem.Expr.Slice _ _ none _) (Value.ref _) (Value.ref _)) _ _ _); k_dflt (refine' kmk_slice_ints ?Fq793 ?Nq793 ?lq793 ?pq793 ?qq793 ?iq793 ?mq793 ?cq793 ?_ ?sq793 ?tq793 ?zq793; (case Fq793 => k_asm); (case Nq793 => k_asm); (case lq793 => kmk_list); (case pq793 => kmk_part); (case qq793 => kmk_part); (case iq793 => l_ints); (case mq793 => k_extra "my pick"); (case cq793 => kmk_len); (case sq793 => with_unfolding_all rfl); (case tq793 => kmk_pure); (case zq793 => kmk_size)); intro D' ws' h' F' N' l1 hI' hC' hL'; (try k_lt l1); (try k_sweep)))
  k_with "my ints" => (first | l_ints | exact IntsAre.cons _ _ IntsAre.nil | exact IntsAre.cons _ _ (IntsAre.cons _ _ IntsAre.nil))
  k_with "mine binaryOp Add ref ref" => ((k_here; (with_reducible show wpAny _ _ (binaryOp _ (Value.ref _) (Value.ref _)) _ _ _); k_dflt (refine' kmk_add_ints ?Fq795 ?Nq795 ?aq795 ?bq795 ?iq795 ?jq795 ?_ ?zq795; (case Fq795 => k_asm); (case Nq795 => k_asm); (case aq795 => kmk_list); (case bq795 => kmk_list); (case iq795 => k_extra "my ints"); (case jq795 => k_extra "my ints"); (case zq795 => first | ((simp only [sizeLine_eq]); k_extra "my size") | kmk_sum)); intro D' ws' h' F' N' l1 hI'; (try k_lt l1); (try k_sweep)))
  k_with "mine call builtin:len" => ((k_here; (with_reducible show wpAny _ _ (call (Value.builtin "len") [Value.bytes (byteArr _) _]) _ _ _); k_dflt (refine' len_byteArr ?zq796 ?_; (case zq796 => k_extra "my size")); intro _ _; (try dsimp only)))
  k_with "mine call builtin:ord" => ((k_here; (with_reducible show wpAny _ _ (call (Value.builtin "ord") [Value.str _ _]) _ _ _); refine ord_of_char ?_; (try dsimp only)))
  k_with "my text slice" => (((with_reducible rename Fr _ _ _ _ => F'); (with_reducible rename News _ _ _ _ => N'); first | ((with_reducible show wpAny _ _ (subscriptTail _ (Expr.Slice none (some _) none _) _ _) _ _ _); (refine slice_strN_ns_len (hsz := ?hszq798) (s := ⟨_, _, _, _, _⟩) F' N' ?_); (case hszq798 => rw [sizeLine_eq]; (first | lia | omega))) | ((with_reducible show wpAny _ _ (subscriptTail _ (Expr.Slice (some _) none none _) _ _) _ _ _); (refine slice_strN_sn_len (hsz := ?hszq798) (s := ⟨_, _, _, _, _⟩) F' N' ?_); (case hszq798 => rw [sizeLine_eq]; (first | lia | omega)))))
  k_with "my units" => (((try simp only [units_in1, units_deeper, Around.mark_units]); (try dsimp only [ktrTop]); (first | lia | omega)))
  k_with "my tail" => ((first | assumption | (refine' And.right ?_; first | assumption | (refine' And.right ?_; first | assumption | (refine' And.right ?_; first | assumption | (refine' And.right ?_; first | assumption | (refine' And.right ?_; first | assumption | (refine' And.right ?_; first | assumption | (refine' And.right ?_; first | assumption | (refine' And.right ?_; first | assumption | (refine' And.right ?_; assumption)))))))))))
  k_with "my conj" => (first | k_extra "my tail" | (refine' And.left ?_; k_extra "my tail") | (refine' And.left ?_; refine' And.left ?_; k_extra "my tail") | (refine' And.right ?_; refine' And.left ?_; k_extra "my tail"))
  k_with "my ne" => ((refine neN ?_; (try dsimp only); first | (refine' Nat.ne_of_lt ?_; k_extra "my conj") | (refine' Nat.ne_of_gt ?_; k_extra "my conj") | k_extra "my conj" | (refine' Ne.symm ?_; k_extra "my conj") | (first | lia | omega)))
  k_with "my sides" => (((case k1 => k_asm); (case k2 => k_asm); (case k3 => k_asm); (case k4 => k_asm); (case k5 => k_asm); (case kK => first | assumption | exact rfl); (case ks => kcj_all); (case kd => first | ((try simp only [depth_mark, depth_under_make, depth_under_kw, depth_in1, depth_deeper]); (try dsimp only [ktrTop]); first | (refine' room3 ?hhq803 ?llq803; (case hhq803 => assumption); (case llq803 => exact Nat.le_of_ble_eq_true rfl)) | (first | lia | omega)) | (with_unfolding_all exact Nat.le_of_ble_eq_true rfl)); (case ku => first | ((try simp only [units_in1, units_deeper, Around.mark_units]); (try dsimp only [ktrTop]); first | (refine' room3 ?hhq803 ?llq803; (case hhq803 => assumption); (case llq803 => exact Nat.le_of_ble_eq_true rfl)) | (first | lia | omega)) | (with_unfolding_all exact Nat.le_of_ble_eq_true rfl))))
  k_with "mine call ref" => ((k_here; (with_reducible show wpAny _ _ (call (Value.ref 143) _) _ _ _); k_dflt (refine' Spec.use0 (size_for_spec _ _ _ _ _ ?c0q804 ?c1q804 ?c2q804 _ ?c3q804) ?k1 ?k2 ?k3 ?k4 ?k5 ?kK ?ks ?kd ?ku ?_; (case c0q804 => assumption); (case c1q804 => (first | lia | omega)); (case c2q804 => (first | lia | omega)); (case c3q804 => assumption); k_extra "my sides"; intro t' h' tk' F' N'; (try k_sweep); (try dsimp only))))
  k_with "mine call ref" => ((k_here; (with_reducible show wpAny _ _ (call (Value.ref 150) _) _ _ _); k_dflt (refine' Spec.useN (check_usage_spec _ _ _ _ _ ?c0q805 _ ?c1q805) ?k1 ?k2 ?k3 ?k4 ?k5 ?kK ?ks ?kd ?ku ?_; (case c0q805 => assumption); (case c1q805 => assumption); k_extra "my sides"; intro h' tk' F' N'; (try k_sweep); (try dsimp only))))
  k_with "mine call ref" => ((k_here; (with_reducible show wpAny _ _ (call (Value.ref 157) _) _ _ _); k_dflt (refine' Spec.useN (check_sign_spec _ _ _ _ _ ?c0q806 _ _ ?c1q806) ?k1 ?k2 ?k3 ?k4 ?k5 ?kK ?ks ?kd ?ku ?_; (case c0q806 => assumption); (case c1q806 => assumption); k_extra "my sides"; intro h' tk' F' N'; (try k_sweep); (try dsimp only))))
  k_with "mine call ref" => ((k_here; (with_reducible show wpAny _ _ (call (Value.ref 162) _) _ _ _); k_dflt (refine' Spec.useN (check_clauses_spec _ _) ?k1 ?k2 ?k3 ?k4 ?k5 ?kK ?ks ?kd ?ku ?_; k_extra "my sides"; intro h' tk' F' N'; (try k_sweep); (try dsimp only))))
  k_with "mine call ref" => ((k_here; (with_reducible show wpAny _ _ (call (Value.ref 111) _) _ _ _); k_dflt (refine' Spec.use8 (shape_new8 _ _ _ _ _ _ _ _ ?c0q808 _ _ _ _) ?k1 ?k2 ?k3 ?k4 ?k5 ?kK ?ks ?kd ?ku ?_; (case c0q808 => assumption); k_extra "my sides"; intro x' dx' es' n' h' tk' F' N' hne' hS' hP' hX'; (try dsimp only [OffN, OffP] at hne'); (try k_sweep); (try dsimp only))))
  trivial
section
theorem shape_of_two (w : World) (px pdx : Addr) (ps : List DictEntry) (pn : Nat) {us : Str} {d sc psize : Nat} {sg : Bool} (hP : PicIs ps (Str.ofString "numeric") d sc psize sg) (h0 : 1 ≤ d) (h1 : d ≤ 18) (t1 : Tok)
    (hus : us = Str.ofString "display" ∨ us = Str.ofString "packed" ∨ us = Str.ofString "binary") :
    Spec w (hd.heap_1 w.params) 170 [.ref px, .str us t1] [(px, instObj 291 pdx), (pdx, dictOf ps pn)] 5 (fun v new => ∃ x dx es n, v = .ref x ∧ new = [(x, instObj 111 dx), (dx, dictOf es n)] ∧ ShapeIs es (Str.ofString "numeric") us (sizeFor us d psize false) d sg false (Str.ofString "trailing") ∧ getL "sign_place" es = some none ∧ @LT.lt Nat _ dx x) := by
  have hsn : (Str.ofString "trailing" = Str.ofString "trailing" ∧ false = false) ∨ ((Str.ofString "trailing" = Str.ofString "trailing" ∨ Str.ofString "trailing" = Str.ofString "leading") ∧ sg = true ∧ us = Str.ofString "display") := .inl ⟨rfl, rfl⟩
  have hP' := hP
  obtain ⟨⟨c1, hc1⟩, ⟨c2, hc2⟩, ⟨c3, hc3⟩, ⟨c4, hc4⟩, hc5⟩ := hP'
  unfold Spec
  intro dp un gd cn cs a ccd cl outer A₀ base h₀ L m mg mb mean news s Q E B F X N T hk hs hroom hun ret
  refine enterC B F X N T rfl rfl hk hs (by k_is) (by k_is) (show dp < recursionLimit from Nat.lt_of_le_of_lt (Nat.le_add_right _ _) hroom) (binds_K (X.keeps F.keep) rfl (by k_is) rfl rfl rfl) (locs rfl) ret ?_ rfl rfl rfl (by decide)
  clear B F X N T ret hs
  intro g L' h₁ gs5 dr5 tk os5 F' N' B' X' T' l1
  (try dsimp only)
  show wpAny _ _ _ _ _ _
  k_fold
  k_extra "my steps"
  rename ShapeIs _ _ _ _ _ _ _ _ => hS
  rename ((_ ≠ px ∧ _) ∧ _) => hne
  obtain ⟨⟨n1, n2⟩, ⟨n3, n4⟩, -⟩ := hne
  refine Ends.intro [_, _] (by k_asm) (by k_asm) (by kcj_all) (by kcj_all) ?_ ⟨_, _, _, _, rfl, rfl, hS, by assumption, by assumption⟩
  intro q hq p hp
  simp only [List.mem_cons, List.not_mem_nil, or_false] at hq hp
  rcases hq with rfl | rfl <;> rcases hp with rfl | rfl <;> assumption
end
section
theorem cut_str {prog : Program} {w : World} {A : Around} {E : Value → Shared → Prop} {s : Shared} {h₀ : Heap} {L : Addr} {m : Str → Option Value} {news : List (Addr × Obj)} {Q : Value → Shared → Prop} {e : PySem.Expr} {env : Env} (y : Str) (_ : Fr h₀ L s.heap m) (_ : News h₀ L s.heap news)
    (h : wpAny (model prog w) A (eval e env) (fun v s' => ∃ t h' k, v = .str y t ∧ s' = { s with heap := h', toks := k } ∧ Fr h₀ L h' m ∧ News h₀ L h' news) (fun _ _ => False) s)
    (k : ∀ t h' k, Fr h₀ L h' m → News h₀ L h' news → Q (.str y t) { s with heap := h', toks := k }) : wpAny (model prog w) A (eval e env) Q E s :=
  wpAny_mono h (fun v s' hq => by obtain ⟨t, h', k', rfl, rfl, F, N⟩ := hq; exact k t h' k' F N) fun _ _ f => f.elim
def numS (n : Int) : Str := Str.ofString (toString n)
def txtS (sg : Bool) : Str := if sg = true then Str.ofString "S" else Str.ofString ""
def txtA (d sc : Nat) : Str := if sc < d then Str.ofString "9(" ++ numS ((d : Int) - (sc : Int)) ++ Str.ofString ")" else Str.ofString ""
def txtB (sc : Nat) : Str := if 0 < sc then Str.ofString "V9(" ++ numS (sc : Int) ++ Str.ofString ")" else Str.ofString ""
def txt (sg : Bool) (d sc : Nat) : Str := txtS sg ++ txtA d sc ++ txtB sc
inductive PicText (x : Str) (d sc : Nat) (sg : Bool) : Prop
  | mk (l : List (Str × Int × Int)) (se : Int) (pt : Str) : (x.length ≤ 20) → ((∀ k ∈ x.cps.toList, k < 97)) → (Scan x 0 l) → (Apart l) → (Plains l) → (l.length ≤ 4) → (OS.init.all l) → (l.foldl OS.take OS.init = ⟨se, sg, pt, d, sc, Str.ofString "9"⟩) → (sizeOf l = (d : Int)) → (1 ≤ d) → (d ≤ 18) →
    PicText x d sc sg
theorem read_picture_txt (w : World) (x : Str) (tx : Tok) {d sc : Nat} {sg : Bool} (h : PicText x d sc sg) :
    Spec w (hd.heap_1 w.params) 502 [.str x tx] [] 8 (fun v new => ∃ p dp es n, v = .ref p ∧ new = [(p, instObj 291 dp), (dp, dictOf es n)] ∧ PicIs es (Str.ofString "numeric") d sc d sg ∧ True ∧ @LT.lt Nat _ dp p) := by
  obtain ⟨l, se, pt, h1, h2, h3, h4, h5, h6, h7, h8, h9, h10, h11⟩ := h
  exact read_picture_spec w x tx l d sc d sg se pt h1 h2 h3 h4 h5 h6 h7 h8 (by (first | lia | omega)) (by (first | lia | omega)) h9 (by (first | lia | omega))
section
variable {prog : Program} {w : World} {A : Around} {E : Value → Shared → Prop} {s : Shared} {value slice : PySem.Expr} {x y : Str} {t u : Tok} {i j : Int} {h₀ : Heap} {L : Addr} {m : Str → Option Value} {news : List (Addr × Obj)} {Q : Value → Shared → Prop}
theorem textSliceTo {uj : Tok} (hF : Fr h₀ L s.heap m) (hN : News h₀ L s.heap news) (hy : Txt.slice x none (some j) = y) (hsz : x.length ≤ 1000)
    (h : ∀ h' t' k, Fr h₀ L h' m → News h₀ L h' news → Q (.str y t') { s with heap := h', toks := k })
    (hs : subscripted slice false (.str x t) (.ref s.heap.objs.size) = operate [.ref s.heap.objs.size, .str x t] (getItem (.str x t) (.ref s.heap.objs.size)))
    (ht : ∀ r, letTemporaryGo value (.str x t) r = pure ()) :
    wpAny (model prog w) A (subscriptTail value slice (.str x t) (.ref s.heap.objs.size)) Q E { s with heap := s.heap.push { cls := .type "slice", data := .fields #[.none, .int j uj, .none] } } := by
  subst hy
  exact slice_strN_ns_len hF hN (fun h' t' k a b _ => h h' t' k a b) hs ht (by rw [sizeLine_eq]; (first | lia | omega))
theorem textSliceFrom {ui : Tok} (hF : Fr h₀ L s.heap m) (hN : News h₀ L s.heap news) (hy : Txt.slice x (some i) none = y) (hsz : x.length ≤ 1000)
    (h : ∀ h' t' k, Fr h₀ L h' m → News h₀ L h' news → Q (.str y t') { s with heap := h', toks := k })
    (hs : subscripted slice false (.str x t) (.ref s.heap.objs.size) = operate [.ref s.heap.objs.size, .str x t] (getItem (.str x t) (.ref s.heap.objs.size)))
    (ht : ∀ r, letTemporaryGo value (.str x t) r = pure ()) :
    wpAny (model prog w) A (subscriptTail value slice (.str x t) (.ref s.heap.objs.size)) Q E { s with heap := s.heap.push { cls := .type "slice", data := .fields #[.int i ui, .none, .none] } } := by
  subst hy
  exact slice_strN_sn_len hF hN (fun h' t' k a b _ => h h' t' k a b) hs ht (by rw [sizeLine_eq]; (first | lia | omega))
theorem str_eq_is {b : Bool} (hb : (x == y) = b) (h : Q (.bool b) s) : wpAny (model prog w) A (compareOp .Eq (.str x t) (.str y u)) Q E s := eq_str (by rw [hb]; exact h)
end
def HeldMark : Prop := True
end
theorem wd66 : True := by
  k_with "mine call ref" => ((k_here; (with_reducible show wpAny _ _ (call (Value.ref 502) _) _ _ _); k_dflt (refine' Spec.use8 (read_picture_txt _ _ _ ?c0q809) ?k1 ?k2 ?k3 ?k4 ?k5 ?kK ?ks ?kd ?ku ?_; (case c0q809 => assumption); k_extra "my sides"; intro x' dx' es' n' h' tk' F' N' hne' hS' hP' hX'; (try dsimp only [OffN, OffP] at hne'); (try k_sweep); (try dsimp only))))
  k_with "mine call ref" => ((k_here; (with_reducible show wpAny _ _ (call (Value.ref 170) _) _ _ _); k_dflt (refine' Spec.use8 (shape_of_spec _ _ _ _ _ _ ?c0q810 ?c1q810 ?c2q810 _ _ ?c3q810 ?c4q810) ?k1 ?k2 ?k3 ?k4 ?k5 ?kK ?ks ?kd ?ku ?_; (case c0q810 => assumption); (case c1q810 => (first | lia | omega)); (case c2q810 => (first | lia | omega)); (case c3q810 => (left; rfl)); (case c4q810 => assumption); k_extra "my sides"; intro x' dx' es' n' h' tk' F' N' hne' hS' hP' hX'; (try dsimp only [OffN, OffP] at hne'); (try k_sweep); (try dsimp only))))
  trivial
section
theorem wd67 : True := by
  k_with "mine eval IfExp" => ((k_here; (rename HeldMark => hHM); refine Held.mk ?_))
  k_with "mine compareOp Eq str str" => ((k_here; k_dflt (refine' str_eq_is ?aq812 ?_; (case aq812 => first | assumption | exact beq_eq_false_iff_ne.mpr (by assumption)))))
  k_with "mine subscriptTail Name Slice str ref" => ((k_here; first | k_dflt (refine' textSliceTo (s := ⟨_, _, _, _, _⟩) ?Fq813 ?Nq813 ?aq813 ?bq813 ?_ ?hsq813 ?htq813; (case Fq813 => k_asm); (case Nq813 => k_asm); (case aq813 => assumption); (case bq813 => (first | lia | omega)); (case hsq813 => with_unfolding_all rfl); (case htq813 => intro _; with_unfolding_all rfl)) | k_dflt (refine' textSliceFrom (s := ⟨_, _, _, _, _⟩) ?Fq813 ?Nq813 ?aq813 ?bq813 ?_ ?hsq813 ?htq813; (case Fq813 => k_asm); (case Nq813 => k_asm); (case aq813 => assumption); (case bq813 => (first | lia | omega)); (case hsq813 => with_unfolding_all rfl); (case htq813 => intro _; with_unfolding_all rfl)); intro _ _ _ _ _; (try k_sweep)))
  k_with "mine binaryOp Add str str" => ((k_here; (with_reducible show wpAny _ _ (binaryOp Operator.Add (Value.str _ _) (Value.str _ _)) _ _ _); k_dflt (refine' SBL.add (hsz := ?hszq814) ?_; (case hszq814 => (try rw [sizeLine_eq]; try simp only [Str.length_append]); (first | lia | omega))); intros; (try dsimp only)))
  trivial
theorem law_shape_disp (w : World) (kd : Str) (tk td ts : Tok) (d sc : Nat) (sg sep : Bool) (sn k4 k5 : Str) (hkl : kd.length ≤ 20) (hki : kd ≠ Str.ofString "index") (hkp : kd ≠ Str.ofString "packed") (hkb : kd ≠ Str.ofString "binary")
    (h4 : Txt.slice kd none (some 4) = k4) (hs4 : (k4 = Str.ofString "lead" ∧ sn = Str.ofString "leading") ∨ (k4 ≠ Str.ofString "lead" ∧ sn = Str.ofString "trailing")) (h5 : Txt.slice kd (some (-5)) none = k5) (hs5 : (k5 == Str.ofString "apart") = sep)
    (hsn : (sn = Str.ofString "trailing" ∧ sep = false) ∨ ((sn = Str.ofString "trailing" ∨ sn = Str.ofString "leading") ∧ sg = true ∧ Str.ofString "display" = Str.ofString "display")) (hd1 : 1 ≤ d) (hd2 : d ≤ 18) (hsc : sc ≤ d) (hT : PicText (txtS sg ++ txtA d sc ++ txtB sc) d sc sg) :
    Spec w (hd.heap_1 w.params) 516 [.str kd tk, .int d td, .int sc ts, .bool sg] [] 12 (fun v new => ∃ x dx es n, v = .ref x ∧ new = [(x, instObj 111 dx), (dx, dictOf es n)] ∧ ShapeIs es (Str.ofString "numeric") (Str.ofString "display") (sizeFor (Str.ofString "display") d d sep) d sg sep sn ∧ getL "sign_place" es = some none ∧ @LT.lt Nat _ dx x) := by
  unfold Spec
  intro dp un gd cn cs a ccd cl outer A₀ base h₀ L m mg mb mean news s Q E B F X N T hk hs hroom hun ret
  refine enterC (binds := [(Str.ofString "kind", .str kd tk), (Str.ofString "digits", .int d td), (Str.ofString "scale", .int sc ts), (Str.ofString "is_signed", .bool sg)]) B F X N T rfl rfl hk hs (by k_is) (by k_is) (show dp < recursionLimit from Nat.lt_of_le_of_lt (Nat.le_add_right _ _) hroom) (BindsTo.of_eq rfl) (locs rfl) ret ?_ rfl rfl rfl (by decide)
  clear B F X N T ret hs
  intro g L' h₁ gs5 dr5 tk os5 F' N' B' X' T' l1
  (try dsimp only)
  show wpAny _ _ _ _ _ _
  k_fold
  have hHM : HeldMark := trivial
  have hany : ([Str.ofString "packed", Str.ofString "binary"].any fun x => x == kd) = false := by
    have e1 : (Str.ofString "packed" == kd) = false := beq_eq_false_iff_ne.mpr (Ne.symm hkp)
    have e2 : (Str.ofString "binary" == kd) = false := beq_eq_false_iff_ne.mpr (Ne.symm hkb)
    simp only [List.any_cons, List.any_nil, e1, e2, Bool.or_self]
  have hlen : (txtS sg).length + (txtA d sc).length + (txtB sc).length ≤ 20 := by
    obtain ⟨_, _, _, h20, _⟩ := id hT
    rw [Str.length_append, Str.length_append] at h20
    exact h20
  k_extra "my steps"
  unfold Held
  rename Fr _ _ _ _ => hF
  rename News _ _ _ _ => hN
  refine cut_str (txtS sg) hF hN ?_ ?_
  · repeat (rename HeldMark => hq; clear hq)
    cases sg
    all_goals k_extra "my steps"
    all_goals k_asm
  intro t6 h6 k6 F6 N6
  clear hF hN
  show wpAny _ _ _ _ _ _
  (try k_fold)
  k_extra "my steps"
  unfold Held
  rename Fr _ _ _ _ => hF
  rename News _ _ _ _ => hN
  refine cut_str (txtA d sc) hF hN ?_ ?_
  · repeat (rename HeldMark => hq; clear hq)
    by_cases hlt : sc < d
    · rw [show txtA d sc = Str.ofString "9(" ++ numS ((d : Int) - (sc : Int)) ++ Str.ofString ")" from if_pos hlt]
      k_extra "my steps"
      all_goals k_asm
    · rw [show txtA d sc = Str.ofString "" from if_neg hlt]
      k_extra "my steps"
      all_goals k_asm
  intro t7 h7 k7 F7 N7
  clear hF hN
  show wpAny _ _ _ _ _ _
  (try k_fold)
  k_extra "my steps"
  unfold Held
  rename Fr _ _ _ _ => hF
  rename News _ _ _ _ => hN
  refine cut_str (txtB sc) hF hN ?_ ?_
  · repeat (rename HeldMark => hq; clear hq)
    by_cases hlt : 0 < sc
    · rw [show txtB sc = Str.ofString "V9(" ++ numS (sc : Int) ++ Str.ofString ")" from if_pos hlt]
      k_extra "my steps"
      all_goals k_asm
    · rw [show txtB sc = Str.ofString "" from if_neg hlt]
      k_extra "my steps"
      all_goals k_asm
  intro t8 h8 k8 F8 N8
  clear hF hN
  show wpAny _ _ _ _ _ _
  (try k_fold)
  k_extra "my steps"
  unfold Held
  rename Fr _ _ _ _ => hF
  rename News _ _ _ _ => hN
  rename PicIs _ _ _ _ _ _ => hPic
  refine cut_str sn hF hN ?_ ?_
  · repeat (rename HeldMark => hq; clear hq)
    rcases hs4 with ⟨e1, e2⟩ | ⟨e1, e2⟩
    · subst e2
      have hk4 : (k4 == Str.ofString "lead") = true := beq_iff_eq.mpr e1
      k_extra "my steps"
      all_goals k_asm
    · subst e2
      k_extra "my steps"
      all_goals k_asm
  intro t9 h9 k9 F9 N9
  clear hF hN
  show wpAny _ _ _ _ _ _
  (try k_fold)
  k_extra "my steps"
  rename ShapeIs _ _ _ _ _ _ _ _ => hShp
  rename (getL (Str.ofString "sign_place") _ = some none) => hno
  rename (@LT.lt Nat _ _ _) => hlt
  show Ends _ _ _ _ _ _
  exact Ends.intro [_, _] (by k_asm) (by k_asm) (fun _ h => nomatch h) (by kcj_all) (fun _ h => nomatch h) ⟨_, _, _, _, rfl, rfl, hShp, hno, hlt⟩
end
theorem wd68 : True := by
  k_with_none
  k_with "my fold" => (((first | (with_reducible show wpAny _ _ (exec (PySem.Stmt.Assign _ _ _) _) _ _ _) | (with_reducible show wpAny _ _ (exec (PySem.Stmt.Return _ _) _) _ _ _) | (with_reducible show wpAny _ _ (exec (PySem.Stmt.If _ _ _ _) _) _ _ _) | (with_reducible show wpAny _ _ (exec (PySem.Stmt.Expr _ _) _) _ _ _) | (with_reducible show wpAny _ _ (exec (PySem.Stmt.AugAssign _ _ _ _) _) _ _ _) | (with_reducible show wpAny _ _ (eval (PySem.Expr.BinOp _ _ _ _) _) _ _ _) | (with_reducible show wpAny _ _ (eval (PySem.Expr.Call _ _ _ _) _) _ _ _)); (fail_if_success (fail_if_success k_fold)); refine (let qk := _; keepQ qk ?_)))
  k_with "my get" => (assumption)
  k_with "mine call type:range" => ((k_here; (rename Fr _ _ _ _ => F'); (rename News _ _ _ _ => N'); (with_unfolding_all refine range1_rows F' N' ?_; intro _ _ _ _ _ _ _ _ _)))
  k_with "my steps" => (repeat' (first | ((fail_if_success (fail_if_success k_unfold)); (try dsimp only); refine (?_ : wpAny _ _ _ _ _ _)) | (k_unfold; (try dsimp only)) | k_extra "my fold" | ((fail_if_success (with_reducible show wpAny _ _ (pyIter _) (fun it s₂ => LoopAtV _ _ _ _ _ _ _ _ _ it s₂) _ _)); (fail_if_success (with_reducible show wpAny _ _ (pyIter _) (fun it s₂ => PairAt3 _ _ _ _ _ _ _ _ _ _ it s₂) _ _)); (fail_if_success (with_reducible show LoopStep3 _ _ _ _ _ _ _ _ _ _)); (fail_if_success (with_reducible show InvEndN _ _ _ _ _ _ _)); (fail_if_success (with_reducible show Ends _ _ _ _ _ _)); first | walk1 | (dsimp only; walk1) | (dsimp only; k_unfold; (try dsimp only)))))
  k_with "my plain steps" => (repeat' (first | ((fail_if_success (fail_if_success k_unfold)); (try dsimp only); refine (?_ : wpAny _ _ _ _ _ _)) | (k_unfold; (try dsimp only)) | ((fail_if_success (with_reducible show wpAny _ _ (pyIter _) (fun it s₂ => LoopAtV _ _ _ _ _ _ _ _ _ it s₂) _ _)); (fail_if_success (with_reducible show wpAny _ _ (pyIter _) (fun it s₂ => PairAt3 _ _ _ _ _ _ _ _ _ _ it s₂) _ _)); (fail_if_success (with_reducible show LoopStep3 _ _ _ _ _ _ _ _ _ _)); (fail_if_success (with_reducible show InvEndN _ _ _ _ _ _ _)); (fail_if_success (with_reducible show Ends _ _ _ _ _ _)); first | walk1 | (dsimp only; walk1) | (dsimp only; k_unfold; (try dsimp only)))))
  k_with "my bytes" => (first | exact all48 (by assumption) | (refine all_cons (by decide) ?_; k_extra "my bytes") | (refine all_snoc (by decide) ?_; k_extra "my bytes"))
  k_with "my size" => (first | (first | lia | omega) | ((try simp only [List.length_map, List.length_cons, List.length_append, List.length_nil, List.length_set, List.length_reverse, lits_length, figs_length, stepKs_length]); (first | lia | omega)))
  k_with "mine call type:bytes" => ((k_here; (with_reducible show wpAny _ _ (call (Value.type "bytes") [Value.ref _]) _ _ _); k_dflt (refine' bytesOf_K ?Fq822 ?Nq822 ?mq822 ?iq822 ?rq822 ?zq822 ?hq822 ?_; (case Fq822 => k_asm); (case Nq822 => k_asm); (case mq822 => k_mem); (case iq822 => assumption); (case rq822 => k_extra "my bytes"); (case zq822 => k_extra "my size"); (case hq822 => exact rfl); k_whole); intro h' t' k' F' N'; (try k_sweep)))
  k_with "my bytes" => ((refine all_set (u8_in _) ?_; k_extra "my bytes"))
  k_with "my byte at" => ((refine fig_at (by assumption) ?_; k_extra "my size"))
  k_with "mine subscriptTail" => ((k_here; (with_reducible show wpAny _ _ (subscriptTail _ _ (Value.bytes _ _) (Value.int _ _)) _ _ _); k_dflt (refine' bytesItem_K ?aq825 ?bq825 ?_ ?hsq825 ?htq825; (case aq825 => k_extra "my byte at"); (case bq825 => decide); (case hsq825 => with_unfolding_all rfl); (case htq825 => intro _; with_unfolding_all rfl))))
  k_with "my index" => (first | (first | lia | omega) | decide | assumption)
  k_with "mine compareOp In" => ((k_here; (with_reducible show wpAny _ _ (compareOp CmpOp.In (Value.int _ _) (Value.bytes _ _)) _ _ _); k_dflt (refine' in_bytes ?aq827 ?bq827 ?_; (case aq827 => (first | lia | omega)); (case bq827 => (first | lia | omega)))))
  k_with "mine getMethod" => ((k_here; (with_reducible show wpAny _ _ (getMethod (Value.bytes _ _) "index" _) _ _ _); refine index_method ?_))
  k_with "mine call builtin:bytes.index" => ((k_here; (with_reducible show wpAny _ _ (call (Value.builtin "bytes.index") [Value.bytes _ _, Value.int _ _]) _ _ _); k_dflt (refine' bytes_index _ ?aq829 ?bq829 ?cq829 ?dq829 ?_; (case aq829 => (first | lia | omega)); (case bq829 => (first | lia | omega)); (case cq829 => decide); (case dq829 => assumption)); intro _ _; (try dsimp only)))
  k_with "mine subscriptTail" => ((k_here; (with_reducible show wpAny _ _ (subscriptTail _ _ (Value.bytes (byteArr _) _) (Value.int _ _)) _ _ _); k_dflt (refine' bytesInt_K ?aq830 ?bq830 ?rq830 ?zq830 ?_ ?hsq830 ?htq830; (case aq830 => (first | lia | omega)); (case bq830 => assumption); (case rq830 => first | assumption | k_extra "my bytes"); (case zq830 => k_extra "my size"); (case hsq830 => with_unfolding_all rfl); (case htq830 => intro _; with_unfolding_all rfl)); intro _ _; (try dsimp only)))
  k_with "my pick" => ((with_reducible first | exact kmk_upto (by l_ints) (by (first | lia | omega)) | exact kmk_from (by l_ints) (by (first | lia | omega)) | exact kmk_upto_neg (by l_ints) (by (first | lia | omega)) | exact kmk_from_neg (by l_ints) (by (first | lia | omega))))
  k_with "mine subscriptTail Name Slice ref ref" => ((k_here; (with_reducible show wpAny _ _ (subscriptTail _ (PySem.Expr.Slice _ _ none _) (Value.ref _) (Value.ref _)) _ _ _); k_dflt (refine' kmk_slice_ints ?Fq832 ?Nq832 ?lq832 ?pq832 ?qq832 ?iq832 ?mq832 ?cq832 ?_ ?sq832 ?tq832 ?zq832; (case Fq832 => k_asm); (case Nq832 => k_asm); (case lq832 => kmk_list); (case pq832 => kmk_part); (case qq832 => kmk_part); (case iq832 => l_ints); (case mq832 => k_extra "my pick"); (case cq832 => kmk_len); (case sq832 => with_unfolding_all rfl); (case tq832 => kmk_pure); (case zq832 => kmk_size)); intro D' ws' h' F' N' l1 hI' hC' hL'; (try k_lt l1); (try k_sweep)))
  k_with "my ints" => (first | l_ints | exact IntsAre.cons _ _ IntsAre.nil | exact IntsAre.cons _ _ (IntsAre.cons _ _ IntsAre.nil))
  k_with "mine binaryOp Add ref ref" => ((k_here; (with_reducible show wpAny _ _ (binaryOp _ (Value.ref _) (Value.ref _)) _ _ _); k_dflt (refine' kmk_add_ints ?Fq834 ?Nq834 ?aq834 ?bq834 ?iq834 ?jq834 ?_ ?zq834; (case Fq834 => k_asm); (case Nq834 => k_asm); (case aq834 => kmk_list); (case bq834 => kmk_list); (case iq834 => k_extra "my ints"); (case jq834 => k_extra "my ints"); (case zq834 => first | ((simp only [sizeLine_eq]); k_extra "my size") | kmk_sum)); intro D' ws' h' F' N' l1 hI'; (try k_lt l1); (try k_sweep)))
  k_with "mine call builtin:len" => ((k_here; (with_reducible show wpAny _ _ (call (Value.builtin "len") [Value.bytes (byteArr _) _]) _ _ _); k_dflt (refine' len_byteArr ?zq835 ?_; (case zq835 => k_extra "my size")); intro _ _; (try dsimp only)))
  k_with "mine call builtin:ord" => ((k_here; (with_reducible show wpAny _ _ (call (Value.builtin "ord") [Value.str _ _]) _ _ _); refine ord_of_char ?_; (try dsimp only)))
  k_with "my text slice" => (((with_reducible rename Fr _ _ _ _ => F'); (with_reducible rename News _ _ _ _ => N'); first | ((with_reducible show wpAny _ _ (subscriptTail _ (Expr.Slice none (some _) none _) _ _) _ _ _); (refine slice_strN_ns_len (hsz := ?hszq837) (s := ⟨_, _, _, _, _⟩) F' N' ?_); (case hszq837 => rw [sizeLine_eq]; (first | lia | omega))) | ((with_reducible show wpAny _ _ (subscriptTail _ (Expr.Slice (some _) none none _) _ _) _ _ _); (refine slice_strN_sn_len (hsz := ?hszq837) (s := ⟨_, _, _, _, _⟩) F' N' ?_); (case hszq837 => rw [sizeLine_eq]; (first | lia | omega)))))
  k_with "my units" => (((try simp only [units_in1, units_deeper, Around.mark_units]); (try dsimp only [ktrTop]); (first | lia | omega)))
  k_with "my tail" => ((first | assumption | (refine' And.right ?_; first | assumption | (refine' And.right ?_; first | assumption | (refine' And.right ?_; first | assumption | (refine' And.right ?_; first | assumption | (refine' And.right ?_; first | assumption | (refine' And.right ?_; first | assumption | (refine' And.right ?_; first | assumption | (refine' And.right ?_; first | assumption | (refine' And.right ?_; assumption)))))))))))
  k_with "my conj" => (first | k_extra "my tail" | (refine' And.left ?_; k_extra "my tail") | (refine' And.left ?_; refine' And.left ?_; k_extra "my tail") | (refine' And.right ?_; refine' And.left ?_; k_extra "my tail"))
  k_with "my ne" => ((refine neN ?_; (try dsimp only); first | (refine' Nat.ne_of_lt ?_; k_extra "my conj") | (refine' Nat.ne_of_gt ?_; k_extra "my conj") | k_extra "my conj" | (refine' Ne.symm ?_; k_extra "my conj") | (first | lia | omega)))
  k_with "my sides" => (((case k1 => k_asm); (case k2 => k_asm); (case k3 => k_asm); (case k4 => k_asm); (case k5 => k_asm); (case kK => first | assumption | exact rfl); (case ks => kcj_all); (case kd => first | ((try simp only [depth_mark, depth_under_make, depth_under_kw, depth_in1, depth_deeper]); (try dsimp only [ktrTop]); first | (refine' room3 ?hhq842 ?llq842; (case hhq842 => assumption); (case llq842 => exact Nat.le_of_ble_eq_true rfl)) | (first | lia | omega)) | (with_unfolding_all exact Nat.le_of_ble_eq_true rfl)); (case ku => first | ((try simp only [units_in1, units_deeper, Around.mark_units]); (try dsimp only [ktrTop]); first | (refine' room3 ?hhq842 ?llq842; (case hhq842 => assumption); (case llq842 => exact Nat.le_of_ble_eq_true rfl)) | (first | lia | omega)) | (with_unfolding_all exact Nat.le_of_ble_eq_true rfl))))
  k_with "mine call ref" => ((k_here; (with_reducible show wpAny _ _ (call (Value.ref 502) _) _ _ _); k_dflt (refine' Spec.use8 (read_picture_txt _ _ _ ?c0q843) ?k1 ?k2 ?k3 ?k4 ?k5 ?kK ?ks ?kd ?ku ?_; (case c0q843 => assumption); k_extra "my sides"; intro x' dx' es' n' h' tk' F' N' hne' hS' hP' hX'; (try dsimp only [OffN, OffP] at hne'); (try k_sweep); (try dsimp only))))
  k_with "mine call ref" => ((k_here; (with_reducible show wpAny _ _ (call (Value.ref 170) _) _ _ _); k_dflt (refine' Spec.use8 (shape_of_two _ _ _ _ _ ?c0q844 ?c1q844 ?c2q844 _ ?c3q844) ?k1 ?k2 ?k3 ?k4 ?k5 ?kK ?ks ?kd ?ku ?_; (case c0q844 => assumption); (case c1q844 => (first | lia | omega)); (case c2q844 => (first | lia | omega)); (case c3q844 => assumption); k_extra "my sides"; intro x' dx' es' n' h' tk' F' N' hne' hS' hP' hX'; (try dsimp only [OffN, OffP] at hne'); (try k_sweep); (try dsimp only))))
  k_with "mine call ref" => ((k_here; (with_reducible show wpAny _ _ (call (Value.ref 184) _) _ _ _); k_dflt (refine' Spec.use8 (index_shape_spec _) ?k1 ?k2 ?k3 ?k4 ?k5 ?kK ?ks ?kd ?ku ?_; k_extra "my sides"; intro x' dx' es' n' h' tk' F' N' hne' hS' hP' hX'; (try dsimp only [OffN, OffP] at hne'); (try k_sweep); (try dsimp only))))
  trivial
section
theorem wd69 : True := by
  k_with "mine eval IfExp" => ((k_here; (rename HeldMark => hHM); refine Held.mk ?_))
  k_with "mine compareOp Eq str str" => ((k_here; k_dflt (refine' str_eq_is ?aq847 ?_; (case aq847 => first | assumption | exact beq_eq_false_iff_ne.mpr (by assumption)))))
  k_with "mine subscriptTail Name Slice str ref" => ((k_here; first | k_dflt (refine' textSliceTo (s := ⟨_, _, _, _, _⟩) ?Fq848 ?Nq848 ?aq848 ?bq848 ?_ ?hsq848 ?htq848; (case Fq848 => k_asm); (case Nq848 => k_asm); (case aq848 => assumption); (case bq848 => (first | lia | omega)); (case hsq848 => with_unfolding_all rfl); (case htq848 => intro _; with_unfolding_all rfl)) | k_dflt (refine' textSliceFrom (s := ⟨_, _, _, _, _⟩) ?Fq848 ?Nq848 ?aq848 ?bq848 ?_ ?hsq848 ?htq848; (case Fq848 => k_asm); (case Nq848 => k_asm); (case aq848 => assumption); (case bq848 => (first | lia | omega)); (case hsq848 => with_unfolding_all rfl); (case htq848 => intro _; with_unfolding_all rfl)); intro _ _ _ _ _; (try k_sweep)))
  k_with "mine binaryOp Add str str" => ((k_here; (with_reducible show wpAny _ _ (binaryOp Operator.Add (Value.str _ _) (Value.str _ _)) _ _ _); k_dflt (refine' SBL.add (hsz := ?hszq849) ?_; (case hszq849 => (try rw [sizeLine_eq]; try simp only [Str.length_append]); (first | lia | omega))); intros; (try dsimp only)))
  trivial
theorem law_shape_comp (w : World) (kd : Str) (tk td ts : Tok) (d sc : Nat) (sg : Bool) (hkl : kd.length ≤ 20) (hki : kd ≠ Str.ofString "index") (hkc : kd = Str.ofString "packed" ∨ kd = Str.ofString "binary") (hd1 : 1 ≤ d) (hd2 : d ≤ 18) (hsc : sc ≤ d) (hT : PicText (txtS sg ++ txtA d sc ++ txtB sc) d sc sg) :
    Spec w (hd.heap_1 w.params) 516 [.str kd tk, .int d td, .int sc ts, .bool sg] [] 12 (fun v new => ∃ x dx es n, v = .ref x ∧ new = [(x, instObj 111 dx), (dx, dictOf es n)] ∧ ShapeIs es (Str.ofString "numeric") kd (sizeFor kd d d false) d sg false (Str.ofString "trailing") ∧ getL "sign_place" es = some none ∧ @LT.lt Nat _ dx x) := by
  unfold Spec
  intro dp un gd cn cs a ccd cl outer A₀ base h₀ L m mg mb mean news s Q E B F X N T hk hs hroom hun ret
  refine enterC (binds := [(Str.ofString "kind", .str kd tk), (Str.ofString "digits", .int d td), (Str.ofString "scale", .int sc ts), (Str.ofString "is_signed", .bool sg)]) B F X N T rfl rfl hk hs (by k_is) (by k_is) (show dp < recursionLimit from Nat.lt_of_le_of_lt (Nat.le_add_right _ _) hroom) (BindsTo.of_eq rfl) (locs rfl) ret ?_ rfl rfl rfl (by decide)
  clear B F X N T ret hs
  intro g L' h₁ gs5 dr5 tk os5 F' N' B' X' T' l1
  (try dsimp only)
  show wpAny _ _ _ _ _ _
  k_fold
  have hHM : HeldMark := trivial
  have hus : kd = Str.ofString "display" ∨ kd = Str.ofString "packed" ∨ kd = Str.ofString "binary" := .inr hkc
  have hany : ([Str.ofString "packed", Str.ofString "binary"].any fun x => x == kd) = true := by
    rcases hkc with rfl | rfl <;> decide
  have hlen : (txtS sg).length + (txtA d sc).length + (txtB sc).length ≤ 20 := by
    obtain ⟨_, _, _, h20, _⟩ := id hT
    rw [Str.length_append, Str.length_append] at h20
    exact h20
  k_extra "my steps"
  unfold Held
  rename Fr _ _ _ _ => hF
  rename News _ _ _ _ => hN
  refine cut_str (txtS sg) hF hN ?_ ?_
  · repeat (rename HeldMark => hq; clear hq)
    cases sg
    all_goals k_extra "my steps"
    all_goals k_asm
  intro t6 h6 k6 F6 N6
  clear hF hN
  show wpAny _ _ _ _ _ _
  (try k_fold)
  k_extra "my steps"
  unfold Held
  rename Fr _ _ _ _ => hF
  rename News _ _ _ _ => hN
  refine cut_str (txtA d sc) hF hN ?_ ?_
  · repeat (rename HeldMark => hq; clear hq)
    by_cases hlt : sc < d
    · rw [show txtA d sc = Str.ofString "9(" ++ numS ((d : Int) - (sc : Int)) ++ Str.ofString ")" from if_pos hlt]
      k_extra "my steps"
      all_goals k_asm
    · rw [show txtA d sc = Str.ofString "" from if_neg hlt]
      k_extra "my steps"
      all_goals k_asm
  intro t7 h7 k7 F7 N7
  clear hF hN
  show wpAny _ _ _ _ _ _
  (try k_fold)
  k_extra "my steps"
  unfold Held
  rename Fr _ _ _ _ => hF
  rename News _ _ _ _ => hN
  refine cut_str (txtB sc) hF hN ?_ ?_
  · repeat (rename HeldMark => hq; clear hq)
    by_cases hlt : 0 < sc
    · rw [show txtB sc = Str.ofString "V9(" ++ numS (sc : Int) ++ Str.ofString ")" from if_pos hlt]
      k_extra "my steps"
      all_goals k_asm
    · rw [show txtB sc = Str.ofString "" from if_neg hlt]
      k_extra "my steps"
      all_goals k_asm
  intro t8 h8 k8 F8 N8
  clear hF hN
  show wpAny _ _ _ _ _ _
  (try k_fold)
  k_extra "my steps"
  rename ShapeIs _ _ _ _ _ _ _ _ => hShp
  rename (getL (Str.ofString "sign_place") _ = some none) => hno
  rename (@LT.lt Nat _ _ _) => hlt
  show Ends _ _ _ _ _ _
  exact Ends.intro [_, _] (by k_asm) (by k_asm) (fun _ h => nomatch h) (by kcj_all) (fun _ h => nomatch h) ⟨_, _, _, _, rfl, rfl, hShp, hno, hlt⟩
theorem law_shape_idx (w : World) (tk td ts : Tok) (d sc : Nat) (sg : Bool) :
    Spec w (hd.heap_1 w.params) 516 [.str (Str.ofString "index") tk, .int d td, .int sc ts, .bool sg] [] 12 (fun v new => ∃ x dx es n, v = .ref x ∧ new = [(x, instObj 111 dx), (dx, dictOf es n)] ∧ ShapeIs es (Str.ofString "index") (Str.ofString "index") 4 9 true false (Str.ofString "trailing") ∧ getL "sign_place" es = some none ∧ @LT.lt Nat _ dx x) := by
  unfold Spec
  intro dp un gd cn cs a ccd cl outer A₀ base h₀ L m mg mb mean news s Q E B F X N T hk hs hroom hun ret
  refine enterC (binds := [(Str.ofString "kind", .str (Str.ofString "index") tk), (Str.ofString "digits", .int d td), (Str.ofString "scale", .int sc ts), (Str.ofString "is_signed", .bool sg)]) B F X N T rfl rfl hk hs (by k_is) (by k_is) (show dp < recursionLimit from Nat.lt_of_le_of_lt (Nat.le_add_right _ _) hroom) (BindsTo.of_eq rfl) (locs rfl) ret ?_ rfl rfl rfl (by decide)
  clear B F X N T ret hs
  intro g L' h₁ gs5 dr5 tk os5 F' N' B' X' T' l1
  (try dsimp only)
  show wpAny _ _ _ _ _ _
  k_fold
  have hie : (Str.ofString "index" == Str.ofString "index") = true := by decide
  k_extra "my steps"
  rename ShapeIs _ _ _ _ _ _ _ _ => hShp
  rename (getL (Str.ofString "sign_place") _ = some none) => hno
  rename (_ ∧ @LT.lt Nat _ _ _) => hlt
  show Ends _ _ _ _ _ _
  exact Ends.intro [_, _] (by k_asm) (by k_asm) (fun _ h => nomatch h) (by kcj_all) (fun _ h => nomatch h) ⟨_, _, _, _, rfl, rfl, hShp, hno, hlt.2⟩
end
theorem wd70 : True := by
  k_with_none
  k_with "my fold" => (((first | (with_reducible show wpAny _ _ (exec (PySem.Stmt.Assign _ _ _) _) _ _ _) | (with_reducible show wpAny _ _ (exec (PySem.Stmt.Return _ _) _) _ _ _) | (with_reducible show wpAny _ _ (exec (PySem.Stmt.If _ _ _ _) _) _ _ _) | (with_reducible show wpAny _ _ (exec (PySem.Stmt.Expr _ _) _) _ _ _) | (with_reducible show wpAny _ _ (exec (PySem.Stmt.AugAssign _ _ _ _) _) _ _ _) | (with_reducible show wpAny _ _ (eval (PySem.Expr.BinOp _ _ _ _) _) _ _ _) | (with_reducible show wpAny _ _ (eval (PySem.Expr.Call _ _ _ _) _) _ _ _)); (fail_if_success (fail_if_success k_fold)); refine (let qk := _; keepQ qk ?_)))
  k_with "my get" => (assumption)
  k_with "mine call type:range" => ((k_here; (rename Fr _ _ _ _ => F'); (rename News _ _ _ _ => N'); (with_unfolding_all refine range1_rows F' N' ?_; intro _ _ _ _ _ _ _ _ _)))
  k_with "my steps" => (repeat' (first | ((fail_if_success (fail_if_success k_unfold)); (try dsimp only); refine (?_ : wpAny _ _ _ _ _ _)) | (k_unfold; (try dsimp only)) | k_extra "my fold" | ((fail_if_success (with_reducible show wpAny _ _ (pyIter _) (fun it s₂ => LoopAtV _ _ _ _ _ _ _ _ _ it s₂) _ _)); (fail_if_success (with_reducible show wpAny _ _ (pyIter _) (fun it s₂ => PairAt3 _ _ _ _ _ _ _ _ _ _ it s₂) _ _)); (fail_if_success (with_reducible show LoopStep3 _ _ _ _ _ _ _ _ _ _)); (fail_if_success (with_reducible show InvEndN _ _ _ _ _ _ _)); (fail_if_success (with_reducible show Ends _ _ _ _ _ _)); first | walk1 | (dsimp only; walk1) | (dsimp only; k_unfold; (try dsimp only)))))
  k_with "my plain steps" => (repeat' (first | ((fail_if_success (fail_if_success k_unfold)); (try dsimp only); refine (?_ : wpAny _ _ _ _ _ _)) | (k_unfold; (try dsimp only)) | ((fail_if_success (with_reducible show wpAny _ _ (pyIter _) (fun it s₂ => LoopAtV _ _ _ _ _ _ _ _ _ it s₂) _ _)); (fail_if_success (with_reducible show wpAny _ _ (pyIter _) (fun it s₂ => PairAt3 _ _ _ _ _ _ _ _ _ _ it s₂) _ _)); (fail_if_success (with_reducible show LoopStep3 _ _ _ _ _ _ _ _ _ _)); (fail_if_success (with_reducible show InvEndN _ _ _ _ _ _ _)); (fail_if_success (with_reducible show Ends _ _ _ _ _ _)); first | walk1 | (dsimp only; walk1) | (dsimp only; k_unfold; (try dsimp only)))))
  k_with "my bytes" => (first | exact all48 (by assumption) | (refine all_cons (by decide) ?_; k_extra "my bytes") | (refine all_snoc (by decide) ?_; k_extra "my bytes"))
  k_with "my size" => (first | (first | lia | omega) | ((try simp only [List.length_map, List.length_cons, List.length_append, List.length_nil, List.length_set, List.length_reverse, lits_length, figs_length, stepKs_length]); (first | lia | omega)))
  k_with "mine call type:bytes" => ((k_here; (with_reducible show wpAny _ _ (call (Value.type "bytes") [Value.ref _]) _ _ _); k_dflt (refine' bytesOf_K ?Fq857 ?Nq857 ?mq857 ?iq857 ?rq857 ?zq857 ?hq857 ?_; (case Fq857 => k_asm); (case Nq857 => k_asm); (case mq857 => k_mem); (case iq857 => assumption); (case rq857 => k_extra "my bytes"); (case zq857 => k_extra "my size"); (case hq857 => exact rfl); k_whole); intro h' t' k' F' N'; (try k_sweep)))
  k_with "my bytes" => ((refine all_set (u8_in _) ?_; k_extra "my bytes"))
  k_with "my byte at" => ((refine fig_at (by assumption) ?_; k_extra "my size"))
  k_with "mine subscriptTail" => ((k_here; (with_reducible show wpAny _ _ (subscriptTail _ _ (Value.bytes _ _) (Value.int _ _)) _ _ _); k_dflt (refine' bytesItem_K ?aq860 ?bq860 ?_ ?hsq860 ?htq860; (case aq860 => k_extra "my byte at"); (case bq860 => decide); (case hsq860 => with_unfolding_all rfl); (case htq860 => intro _; with_unfolding_all rfl))))
  k_with "my index" => (first | (first | lia | omega) | decide | assumption)
  k_with "mine compareOp In" => ((k_here; (with_reducible show wpAny _ _ (compareOp CmpOp.In (Value.int _ _) (Value.bytes _ _)) _ _ _); k_dflt (refine' in_bytes ?aq862 ?bq862 ?_; (case aq862 => (first | lia | omega)); (case bq862 => (first | lia | omega)))))
  k_with "mine getMethod" => ((k_here; (with_reducible show wpAny _ _ (getMethod (Value.bytes _ _) "index" _) _ _ _); refine index_method ?_))
  k_with "mine call builtin:bytes.index" => ((k_here; (with_reducible show wpAny _ _ (call (Value.builtin "bytes.index") [Value.bytes _ _, Value.int _ _]) _ _ _); k_dflt (refine' bytes_index _ ?aq864 ?bq864 ?cq864 ?dq864 ?_; (case aq864 => (first | lia | omega)); (case bq864 => (first | lia | omega)); (case cq864 => decide); (case dq864 => assumption)); intro _ _; (try dsimp only)))
  k_with "mine subscriptTail" => ((k_here; (with_reducible show wpAny _ _ (subscriptTail _ _ (Value.bytes (byteArr _) _) (Value.int _ _)) _ _ _); k_dflt (refine' bytesInt_K ?aq865 ?bq865 ?rq865 ?zq865 ?_ ?hsq865 ?htq865; (case aq865 => (first | lia | omega)); (case bq865 => assumption); (case rq865 => first | assumption | k_extra "my bytes"); (case zq865 => k_extra "my size"); (case hsq865 => with_unfolding_all rfl); (case htq865 => intro _; with_unfolding_all rfl)); intro _ _; (try dsimp only)))
  k_with "my pick" => ((with_reducible first | exact kmk_upto (by l_ints) (by (first | lia | omega)) | exact kmk_from (by l_ints) (by (first | lia | omega)) | exact kmk_upto_neg (by l_ints) (by (first | lia | omega)) | exact kmk_from_neg (by l_ints) (by (first | lia | omega))))
  k_with "mine subscriptTail Name Slice ref ref" => ((k_here; (with_reducible show wpAny _ _ (subscriptTail _ (PySem.Expr.Slice _ _ none _) (Value.ref _) (Value.ref _)) _ _ _); k_dflt (refine' kmk_slice_ints ?Fq867 ?Nq867 ?lq867 ?pq867 ?qq867 ?iq867 ?mq867 ?cq867 ?_ ?sq867 ?tq867 ?zq867; (case Fq867 => k_asm); (case Nq867 => k_asm); (case lq867 => kmk_list); (case pq867 => kmk_part); (case qq867 => kmk_part); (case iq867 => l_ints); (case mq867 => k_extra "my pick"); (case cq867 => kmk_len); (case sq867 => with_unfolding_all rfl); (case tq867 => kmk_pure); (case zq867 => kmk_size)); intro D' ws' h' F' N' l1 hI' hC' hL'; (try k_lt l1); (try k_sweep)))
  k_with "my ints" => (first | l_ints | exact IntsAre.cons _ _ IntsAre.nil | exact IntsAre.cons _ _ (IntsAre.cons _ _ IntsAre.nil))
  k_with "mine binaryOp Add ref ref" => ((k_here; (with_reducible show wpAny _ _ (binaryOp _ (Value.ref _) (Value.ref _)) _ _ _); k_dflt (refine' kmk_add_ints ?Fq869 ?Nq869 ?aq869 ?bq869 ?iq869 ?jq869 ?_ ?zq869; (case Fq869 => k_asm); (case Nq869 => k_asm); (case aq869 => kmk_list); (case bq869 => kmk_list); (case iq869 => k_extra "my ints"); (case jq869 => k_extra "my ints"); (case zq869 => first | ((simp only [sizeLine_eq]); k_extra "my size") | kmk_sum)); intro D' ws' h' F' N' l1 hI'; (try k_lt l1); (try k_sweep)))
  k_with "mine call builtin:len" => ((k_here; (with_reducible show wpAny _ _ (call (Value.builtin "len") [Value.bytes (byteArr _) _]) _ _ _); k_dflt (refine' len_byteArr ?zq870 ?_; (case zq870 => k_extra "my size")); intro _ _; (try dsimp only)))
  k_with "mine call builtin:ord" => ((k_here; (with_reducible show wpAny _ _ (call (Value.builtin "ord") [Value.str _ _]) _ _ _); refine ord_of_char ?_; (try dsimp only)))
  k_with "my text slice" => (((with_reducible rename Fr _ _ _ _ => F'); (with_reducible rename News _ _ _ _ => N'); first | ((with_reducible show wpAny _ _ (subscriptTail _ (Expr.Slice none (some _) none _) _ _) _ _ _); (refine slice_strN_ns_len (hsz := ?hszq872) (s := ⟨_, _, _, _, _⟩) F' N' ?_); (case hszq872 => rw [sizeLine_eq]; (first | lia | omega))) | ((with_reducible show wpAny _ _ (subscriptTail _ (Expr.Slice (some _) none none _) _ _) _ _ _); (refine slice_strN_sn_len (hsz := ?hszq872) (s := ⟨_, _, _, _, _⟩) F' N' ?_); (case hszq872 => rw [sizeLine_eq]; (first | lia | omega)))))
  k_with "my units" => (((try simp only [units_in1, units_deeper, Around.mark_units]); (try dsimp only [ktrTop]); (first | lia | omega)))
  k_with "my tail" => ((first | assumption | (refine' And.right ?_; first | assumption | (refine' And.right ?_; first | assumption | (refine' And.right ?_; first | assumption | (refine' And.right ?_; first | assumption | (refine' And.right ?_; first | assumption | (refine' And.right ?_; first | assumption | (refine' And.right ?_; first | assumption | (refine' And.right ?_; first | assumption | (refine' And.right ?_; assumption)))))))))))
  k_with "my conj" => (first | k_extra "my tail" | (refine' And.left ?_; k_extra "my tail") | (refine' And.left ?_; refine' And.left ?_; k_extra "my tail") | (refine' And.right ?_; refine' And.left ?_; k_extra "my tail"))
  k_with "my ne" => ((refine neN ?_; (try dsimp only); first | (refine' Nat.ne_of_lt ?_; k_extra "my conj") | (refine' Nat.ne_of_gt ?_; k_extra "my conj") | k_extra "my conj" | (refine' Ne.symm ?_; k_extra "my conj") | (first | lia | omega)))
  k_with "my sides" => (((case k1 => k_asm); (case k2 => k_asm); (case k3 => k_asm); (case k4 => k_asm); (case k5 => k_asm); (case kK => first | assumption | exact rfl); (case ks => kcj_all); (case kd => first | ((try simp only [depth_mark, depth_under_make, depth_under_kw, depth_in1, depth_deeper]); (try dsimp only [ktrTop]); first | (refine' room3 ?hhq877 ?llq877; (case hhq877 => assumption); (case llq877 => exact Nat.le_of_ble_eq_true rfl)) | (first | lia | omega)) | (with_unfolding_all exact Nat.le_of_ble_eq_true rfl)); (case ku => first | ((try simp only [units_in1, units_deeper, Around.mark_units]); (try dsimp only [ktrTop]); first | (refine' room3 ?hhq877 ?llq877; (case hhq877 => assumption); (case llq877 => exact Nat.le_of_ble_eq_true rfl)) | (first | lia | omega)) | (with_unfolding_all exact Nat.le_of_ble_eq_true rfl))))
  trivial
section
inductive KindIs : Str → Str → Str → Str → Nat → Nat → Bool → Bool → Prop
  | trail (d : Nat) (sg : Bool) : KindIs (Str.ofString "trail") (Str.ofString "numeric") (Str.ofString "display") (Str.ofString "trailing") d d sg false
  | lead (d : Nat) : KindIs (Str.ofString "lead") (Str.ofString "numeric") (Str.ofString "display") (Str.ofString "leading") d d true false
  | ta (d : Nat) : KindIs (Str.ofString "trail apart") (Str.ofString "numeric") (Str.ofString "display") (Str.ofString "trailing") d (d + 1) true true
  | la (d : Nat) : KindIs (Str.ofString "lead apart") (Str.ofString "numeric") (Str.ofString "display") (Str.ofString "leading") d (d + 1) true true
  | packed (d : Nat) (sg : Bool) : KindIs (Str.ofString "packed") (Str.ofString "numeric") (Str.ofString "packed") (Str.ofString "trailing") d (d / 2 + 1) sg false
  | binary (d : Nat) (sg : Bool) : KindIs (Str.ofString "binary") (Str.ofString "numeric") (Str.ofString "binary") (Str.ofString "trailing") d (binWidth d) sg false
  | idx : KindIs (Str.ofString "index") (Str.ofString "index") (Str.ofString "index") (Str.ofString "trailing") 9 4 true false
theorem binSize {d : Nat} (h : d ≤ 18) : BinSize d (binWidth d) := by
  unfold BinSize binWidth
  split
  · exact .inl ⟨by assumption, rfl⟩
  · split
    · exact .inr (.inl ⟨by assumption, rfl⟩)
    · exact .inr (.inr ⟨h, rfl⟩)
theorem KindIs.fits {kd cat us sn : Str} {d size : Nat} {sg sep : Bool} (h : KindIs kd cat us sn d size sg sep) (h2 : d ≤ 18) : SizeFits cat us d size sg sep := by
  cases h
  · exact .inl ⟨rfl, rfl, by simp⟩
  · exact .inl ⟨rfl, rfl, by simp⟩
  · exact .inl ⟨rfl, rfl, by simp⟩
  · exact .inl ⟨rfl, rfl, by simp⟩
  · exact .inr (.inl ⟨rfl, rfl⟩)
  · exact .inr (.inr ⟨.inl rfl, binSize h2⟩)
  · exact .inr (.inr ⟨.inr rfl, .inr (.inl ⟨by decide, rfl⟩)⟩)
theorem KindIs.ok {kd cat us sn : Str} {d size : Nat} {sg sep : Bool} (h : KindIs kd cat us sn d size sg sep) (h2 : d ≤ 18) : SizeOk us size := by
  cases h
  · exact .inl rfl
  · exact .inl rfl
  · exact .inl rfl
  · exact .inl rfl
  · exact .inr (.inl ⟨rfl, by (first | lia | omega), by (first | lia | omega)⟩)
  · exact .inr (.inr (.inl ⟨rfl, (binSize h2).room.2.1⟩))
  · exact .inr (.inr (.inr ⟨rfl, by decide⟩))
def ShpPost (cat us sn : Str) (d size : Nat) (sg sep : Bool) (v : Value) (new : List (Addr × Obj)) : Prop :=
  ∃ x dx es n, v = .ref x ∧ new = [(x, instObj 111 dx), (dx, dictOf es n)] ∧ ShapeIs es cat us size d sg sep sn ∧ getL "sign_place" es = some none ∧ @LT.lt Nat _ dx x
theorem law_shape_all (w : World) (tk td ts : Tok) {kd cat us sn : Str} {d sc size : Nat} {sg sep : Bool} (h : KindIs kd cat us sn d size sg sep) (hd1 : 1 ≤ d) (hd2 : d ≤ 18) (hsc : sc ≤ d) (hT : PicText (txtS sg ++ txtA d sc ++ txtB sc) d sc sg) :
    Spec w (hd.heap_1 w.params) 516 [.str kd tk, .int d td, .int sc ts, .bool sg] [] 12 (ShpPost cat us sn d size sg sep) := by
  cases h
  · have := law_shape_disp w (Str.ofString "trail") tk td ts d sc sg false (Str.ofString "trailing") (Str.ofString "trai") (Str.ofString "trail") (by decide) (by decide) (by decide) (by decide) (by decide +kernel) (.inr ⟨by decide, rfl⟩) (by decide +kernel) (by decide) (.inl ⟨rfl, rfl⟩) hd1 hd2 hsc hT
    rw [sizeFor_disp] at this
    exact this
  · have := law_shape_disp w (Str.ofString "lead") tk td ts d sc true false (Str.ofString "leading") (Str.ofString "lead") (Str.ofString "lead") (by decide) (by decide) (by decide) (by decide) (by decide +kernel) (.inl ⟨by decide, rfl⟩) (by decide +kernel) (by decide) (.inr ⟨.inr rfl, rfl, rfl⟩) hd1 hd2 hsc hT
    rw [sizeFor_disp] at this
    exact this
  · have := law_shape_disp w (Str.ofString "trail apart") tk td ts d sc true true (Str.ofString "trailing") (Str.ofString "trai") (Str.ofString "apart") (by decide) (by decide) (by decide) (by decide) (by decide +kernel) (.inr ⟨by decide, rfl⟩) (by decide +kernel) (by decide) (.inr ⟨.inl rfl, rfl, rfl⟩) hd1 hd2 hsc hT
    rw [sizeFor_disp] at this
    exact this
  · have := law_shape_disp w (Str.ofString "lead apart") tk td ts d sc true true (Str.ofString "leading") (Str.ofString "lead") (Str.ofString "apart") (by decide) (by decide) (by decide) (by decide) (by decide +kernel) (.inl ⟨by decide, rfl⟩) (by decide +kernel) (by decide) (.inr ⟨.inr rfl, rfl, rfl⟩) hd1 hd2 hsc hT
    rw [sizeFor_disp] at this
    exact this
  · have := law_shape_comp w (Str.ofString "packed") tk td ts d sc sg (by decide) (by decide) (.inl rfl) hd1 hd2 hsc hT
    rw [show sizeFor (Str.ofString "packed") d d false = d / 2 + 1 from if_pos rfl] at this
    exact this
  · have := law_shape_comp w (Str.ofString "binary") tk td ts d sc sg (by decide) (by decide) (.inr rfl) hd1 hd2 hsc hT
    rw [show sizeFor (Str.ofString "binary") d d false = binWidth d from (if_neg (by decide)).trans (if_pos rfl)] at this
    exact this
  · exact law_shape_idx w tk td ts 9 sc true
theorem law_laid_all (w : World) (ts td tz tu : Tok) {kd cat us sn : Str} {d size : Nat} {sg sep : Bool} (h : KindIs kd cat us sn d size sg sep) (hd1 : 1 ≤ d) (hd2 : d ≤ 18) (u : Int) :
    Spec w (hd.heap_1 w.params) 535 [.str kd ts, .int size tz, .int d td, .bool sg, .int u tu] [] 3 (fun v new => new = [] ∧ ∃ t, v = .bytes (byteArr (octs us size d sg sep (sn == Str.ofString "leading") (kept d sg u))) t) := by
  have e1 : ∀ (size : Nat) (sg sep lead : Bool) (u : Int), octs (Str.ofString "display") size d sg sep lead u = dispOct d sg sep lead u := fun _ _ _ _ _ => if_pos rfl
  have e2 : ∀ (size : Nat) (sg sep lead : Bool) (u : Int), octs (Str.ofString "packed") size d sg sep lead u = packOct size sg u := fun _ _ _ _ _ => (if_neg (by decide)).trans (if_pos rfl)
  have e3 : ∀ (size : Nat) (sg sep lead : Bool) (u : Int), octs (Str.ofString "binary") size d sg sep lead u = binOct size u := fun _ _ _ _ _ => (if_neg (by decide)).trans (if_neg (by decide))
  have e4 : ∀ (d size : Nat) (sg sep lead : Bool) (u : Int), octs (Str.ofString "index") size d sg sep lead u = binOct size u := fun _ _ _ _ _ _ => (if_neg (by decide)).trans (if_neg (by decide))
  have f1 : (Str.ofString "trailing" == Str.ofString "leading") = false := by decide
  have f2 : (Str.ofString "leading" == Str.ofString "leading") = true := by decide
  cases h
  · rw [e1, f1]
    cases sg
    · exact law_laid_plain w ts td tz tu d d u hd1 hd2
    · exact law_laid_t w ts td tz tu d d u hd1 hd2
  · rw [e1, f2]; exact law_laid_l w ts td tz tu d d u hd1 hd2
  · rw [e1, f1]; exact law_laid_ta w ts td tz tu d (d + 1) u hd1 hd2
  · rw [e1, f2]; exact law_laid_la w ts td tz tu d (d + 1) u hd1 hd2
  · rw [e2]; exact law_laid_pack w ts td tz tu d _ sg u hd2 rfl
  · rw [e3]; exact law_laid_bin w ts td tz tu d _ sg u (binSize hd2)
  · rw [e4]; exact law_laid_idx w ts td tz tu 9 4 true u (.inr (.inl ⟨by decide, rfl⟩))
end
section
def endAt (x : Str) (p : Int) : Int := if Txt.slice x (some (p + 1)) (some (p + 1 + 1)) = Str.ofString "(" then Txt.find3 x (Str.ofString ")") (p + 1) + 1 else p + 1
def signD (x : Str) (p : Int) (sn : Str) : Decidable (SignFact x p sn) := by unfold SignFact; exact inferInstance
def countD (x : Str) (q c e : Int) : Decidable (CountFact x q c e) := by unfold CountFact; exact inferInstance
def signB (x : Str) (p : Int) (sn : Str) : Bool := @decide (SignFact x p sn) (signD x p sn)
def countB (x : Str) (q c e : Int) : Bool := @decide (CountFact x q c e) (countD x q c e)
def scanB (x : Str) : Int → List (Str × Int × Int) → Bool
  | p, [] => decide (p = (x.length : Int))
  | p, (sn, c, pl) :: r => decide (pl = p) && signB x p sn && countB x (p + 1) c (endAt x p) && decide ((sn = Str.ofString "9" ∧ p + 1 < endAt x p) ∨ (sn ≠ Str.ofString "9" ∧ endAt x p = p + 1)) && scanB x (endAt x p) r
theorem scanB_ok {x : Str} : ∀ {l : List (Str × Int × Int)} {p : Int}, scanB x p l = true → Scan x p l
  | [], p, h => (of_decide_eq_true h : p = (x.length : Int))
  | (sn, c, pl) :: r, p, h => by
    unfold scanB at h
    simp only [Bool.and_eq_true] at h
    obtain ⟨⟨⟨⟨h1, h2⟩, h3⟩, h4⟩, h5⟩ := h
    exact ⟨of_decide_eq_true h1, @of_decide_eq_true _ (signD x p sn) h2, endAt x p, @of_decide_eq_true _ (countD x (p + 1) c (endAt x p)) h3, of_decide_eq_true h4, scanB_ok h5⟩
def numK (n : Nat) : Str := if n < 10 then ⟨#[48 + n]⟩ else ⟨#[49, 38 + n]⟩
theorem numS_eq (n : Nat) (h : n ≤ 18) : numS (n : Int) = numK n := by
  have key : ∀ n, n < 19 → ((Nat.toDigits 10 n).map Char.toNat).toArray = (numK n).cps := by decide +kernel
  have e : (numS (n : Int)).cps = (numK n).cps := (text_cps n).trans (key n (by (first | lia | omega)))
  exact congrArg Str.mk e
def txtK (sg : Bool) (d sc : Nat) : Str :=
  (if sg = true then Str.ofString "S" else Str.ofString "") ++ (if sc < d then Str.ofString "9(" ++ numK (d - sc) ++ Str.ofString ")" else Str.ofString "") ++ (if 0 < sc then Str.ofString "V9(" ++ numK sc ++ Str.ofString ")" else Str.ofString "")
theorem txt_eq (sg : Bool) (d sc : Nat) (h : d ≤ 18) (h2 : sc ≤ d) : txtS sg ++ txtA d sc ++ txtB sc = txtK sg d sc := by
  unfold txtK
  congr 1
  · congr 1
    unfold txtA
    split
    · rw [show (d : Int) - (sc : Int) = ((d - sc : Nat) : Int) by (first | lia | omega), numS_eq _ (by (first | lia | omega))]
    · rfl
  · unfold txtB
    split
    · rw [numS_eq _ (by (first | lia | omega))]
    · rfl
def at0 (sg : Bool) : Int := if sg = true then 1 else 0
def at1 (sg : Bool) (d sc : Nat) : Int := at0 sg + (if sc < d then (if d - sc < 10 then 4 else 5) else 0)
def picL (sg : Bool) (d sc : Nat) : List (Str × Int × Int) :=
  (if sg = true then [(Str.ofString "S", 1, 0)] else []) ++ ((if sc < d then [(Str.ofString "9", ((d - sc : Nat) : Int), at0 sg)] else []) ++ (if 0 < sc then [(Str.ofString "V", 1, at1 sg d sc), (Str.ofString "9", (sc : Int), at1 sg d sc + 1)] else []))
def chk (sg : Bool) (d sc : Nat) : Bool := scanB (txtK sg d sc) 0 (picL sg d sc) && decide ((txtK sg d sc).length ≤ 20) && (txtK sg d sc).cps.toList.all (· < 97)
theorem chk_true_1 : ∀ d, d < 8 → 1 ≤ d → ∀ sc, sc < 19 → sc ≤ d → chk true d sc = true := by decide +kernel
theorem chk_true_8 : ∀ d, d < 12 → 8 ≤ d → ∀ sc, sc < 19 → sc ≤ d → chk true d sc = true := by decide +kernel
theorem chk_true_12 : ∀ d, d < 14 → 12 ≤ d → ∀ sc, sc < 19 → sc ≤ d → chk true d sc = true := by decide +kernel
theorem chk_true_14 : ∀ d, d < 16 → 14 ≤ d → ∀ sc, sc < 19 → sc ≤ d → chk true d sc = true := by decide +kernel
theorem chk_true_16 : ∀ d, d < 17 → 16 ≤ d → ∀ sc, sc < 19 → sc ≤ d → chk true d sc = true := by decide +kernel
theorem chk_true_17 : ∀ d, d < 18 → 17 ≤ d → ∀ sc, sc < 19 → sc ≤ d → chk true d sc = true := by decide +kernel
theorem chk_true_18 : ∀ d, d < 19 → 18 ≤ d → ∀ sc, sc < 19 → sc ≤ d → chk true d sc = true := by decide +kernel
theorem chk_false_1 : ∀ d, d < 8 → 1 ≤ d → ∀ sc, sc < 19 → sc ≤ d → chk false d sc = true := by decide +kernel
theorem chk_false_8 : ∀ d, d < 12 → 8 ≤ d → ∀ sc, sc < 19 → sc ≤ d → chk false d sc = true := by decide +kernel
theorem chk_false_12 : ∀ d, d < 14 → 12 ≤ d → ∀ sc, sc < 19 → sc ≤ d → chk false d sc = true := by decide +kernel
theorem chk_false_14 : ∀ d, d < 16 → 14 ≤ d → ∀ sc, sc < 19 → sc ≤ d → chk false d sc = true := by decide +kernel
theorem chk_false_16 : ∀ d, d < 17 → 16 ≤ d → ∀ sc, sc < 19 → sc ≤ d → chk false d sc = true := by decide +kernel
theorem chk_false_17 : ∀ d, d < 18 → 17 ≤ d → ∀ sc, sc < 19 → sc ≤ d → chk false d sc = true := by decide +kernel
theorem chk_false_18 : ∀ d, d < 19 → 18 ≤ d → ∀ sc, sc < 19 → sc ≤ d → chk false d sc = true := by decide +kernel
theorem chk_all (sg : Bool) (d : Nat) (h2 : d < 19) (h1 : 1 ≤ d) (sc : Nat) (h3 : sc < 19) (h4 : sc ≤ d) : chk sg d sc = true := by
  cases sg
  · by_cases c0 : d < 8
    · exact chk_false_1 d c0 h1 sc h3 h4
    by_cases c1 : d < 12
    · exact chk_false_8 d c1 (Nat.not_lt.mp c0) sc h3 h4
    by_cases c2 : d < 14
    · exact chk_false_12 d c2 (Nat.not_lt.mp c1) sc h3 h4
    by_cases c3 : d < 16
    · exact chk_false_14 d c3 (Nat.not_lt.mp c2) sc h3 h4
    by_cases c4 : d < 17
    · exact chk_false_16 d c4 (Nat.not_lt.mp c3) sc h3 h4
    by_cases c5 : d < 18
    · exact chk_false_17 d c5 (Nat.not_lt.mp c4) sc h3 h4
    exact chk_false_18 d h2 (Nat.not_lt.mp c5) sc h3 h4
  · by_cases c0 : d < 8
    · exact chk_true_1 d c0 h1 sc h3 h4
    by_cases c1 : d < 12
    · exact chk_true_8 d c1 (Nat.not_lt.mp c0) sc h3 h4
    by_cases c2 : d < 14
    · exact chk_true_12 d c2 (Nat.not_lt.mp c1) sc h3 h4
    by_cases c3 : d < 16
    · exact chk_true_14 d c3 (Nat.not_lt.mp c2) sc h3 h4
    by_cases c4 : d < 17
    · exact chk_true_16 d c4 (Nat.not_lt.mp c3) sc h3 h4
    by_cases c5 : d < 18
    · exact chk_true_17 d c5 (Nat.not_lt.mp c4) sc h3 h4
    exact chk_true_18 d h2 (Nat.not_lt.mp c5) sc h3 h4
theorem pic_text (sg : Bool) (d sc : Nat) (h1 : 1 ≤ d) (h2 : d ≤ 18) (h3 : sc ≤ d) : PicText (txtS sg ++ txtA d sc ++ txtB sc) d sc sg := by
  rw [txt_eq sg d sc h2 h3]
  have h := chk_all sg d (by (first | lia | omega)) h1 sc (by (first | lia | omega)) h3
  unfold chk at h
  simp only [Bool.and_eq_true, decide_eq_true_eq, List.all_eq_true] at h
  obtain ⟨⟨hs, hl⟩, hlow⟩ := h
  have n1 : Str.ofString "9" ≠ Str.ofString "S" := by decide
  have n2 : Str.ofString "V" ≠ Str.ofString "S" := by decide
  have n3 : Str.ofString "V" ≠ Str.ofString "9" := by decide
  have n4 : Str.ofString "V" ≠ Str.ofString "" := by decide
  have n5 : Str.ofString "S" ≠ Str.ofString "9" := by decide
  have n6 : Str.ofString "S" ≠ Str.ofString "V" := by decide
  have n7 : Str.ofString "9" ≠ Str.ofString "V" := by decide
  have hc : ((d - sc : Nat) : Int) = (d : Int) - (sc : Int) := by (first | lia | omega)
  refine ⟨picL sg d sc, (picL sg d sc).length, if 0 < sc then Str.ofString "V" else Str.ofString "", hl, hlow, scanB_ok hs, ?_, ?_, ?_, ?_, ?_, ?_, h1, h2⟩
  all_goals (
    unfold picL
    cases sg
    all_goals (
      by_cases ha : sc < d
      all_goals (
        by_cases hb : 0 < sc
        all_goals first
          | (exfalso; (first | lia | omega))
          | (simp [ha, hb, Apart, Plains, OS.all, OS.ok, OS.take, OS.init, sizeOf, laid, n1, n2, n3, n4, n5, n6, n7]; done)
          | (simp [ha, hb, Apart, Plains, OS.all, OS.ok, OS.take, OS.init, sizeOf, laid, n1, n2, n3, n4, n5, n6, n7]; (first | lia | omega))
          | (simp [ha, hb, Apart, Plains, OS.all, OS.ok, OS.take, OS.init, sizeOf, laid, n1, n2, n3, n4, n5, n6, n7] <;> (first | lia | omega))
          | trace_state)))
end
section
structure Row where
  kd : Str
  d : Nat
  sg : Bool
  u : Int
  b : Array UInt8
def rowObj (r : Row) (t1 t2 t3 t4 : Tok) : Obj := { cls := .type "tuple", data := .seq #[.str r.kd t1, .int (r.d : Nat) t2, .bool r.sg, .int r.u t3, .bytes r.b t4] }
inductive RowsAre (os : List (Addr × Obj)) : List Row → List Value → Prop
  | nil : RowsAre os [] []
  | cons {r : Row} {l : List Row} {T : Addr} {ts : List Value} {t1 t2 t3 t4 : Tok} : (T, rowObj r t1 t2 t3 t4) ∈ os → RowsAre os l ts → RowsAre os (r :: l) (Value.ref T :: ts)
def tableL : List Row := [
  ⟨Str.ofString "trail", 3, true, -120, #[49, 50, 125]⟩,
  ⟨Str.ofString "trail", 3, true, 129, #[49, 50, 73]⟩,
  ⟨Str.ofString "lead", 3, true, -120, #[74, 50, 48]⟩,
  ⟨Str.ofString "lead", 3, true, 20, #[123, 50, 48]⟩,
  ⟨Str.ofString "trail", 3, true, -1000, #[48, 48, 123]⟩,
  ⟨Str.ofString "trail", 3, false, -1234, #[50, 51, 52]⟩,
  ⟨Str.ofString "trail apart", 2, true, -112, #[49, 50, 45]⟩,
  ⟨Str.ofString "lead apart", 2, true, 5, #[43, 48, 53]⟩,
  ⟨Str.ofString "packed", 3, true, -123, #[18, 61]⟩,
  ⟨Str.ofString "packed", 3, false, -123, #[18, 63]⟩,
  ⟨Str.ofString "packed", 2, true, 1099, #[9, 156]⟩,
  ⟨Str.ofString "binary", 4, true, -1, #[255, 255]⟩,
  ⟨Str.ofString "binary", 4, false, -1, #[0, 1]⟩,
  ⟨Str.ofString "binary", 5, true, 100000 + 256, #[0, 0, 1, 0]⟩,
  ⟨Str.ofString "binary", 9, true, -999999999, #[196, 101, 54, 1]⟩,
  ⟨Str.ofString "binary", 10, true, -2, #[255, 255, 255, 255, 255, 255, 255, 254]⟩,
  ⟨Str.ofString "index", 9, true, -3, #[255, 255, 255, 253]⟩,
  ⟨Str.ofString "packed", 18, true, 5, #[0, 0, 0, 0, 0, 0, 0, 0, 0, 92]⟩,
  ⟨Str.ofString "trail", 1, true, 7, #[71]⟩,
  ⟨Str.ofString "lead", 1, true, -9, #[82]⟩]
def tabA : List Row := [⟨Str.ofString "trail", 3, true, -120, #[49, 50, 125]⟩, ⟨Str.ofString "trail", 3, true, 129, #[49, 50, 73]⟩, ⟨Str.ofString "lead", 3, true, -120, #[74, 50, 48]⟩, ⟨Str.ofString "lead", 3, true, 20, #[123, 50, 48]⟩]
def tabB : List Row := [⟨Str.ofString "trail", 3, true, -1000, #[48, 48, 123]⟩, ⟨Str.ofString "trail", 3, false, -1234, #[50, 51, 52]⟩, ⟨Str.ofString "trail apart", 2, true, -112, #[49, 50, 45]⟩, ⟨Str.ofString "lead apart", 2, true, 5, #[43, 48, 53]⟩]
def tabC : List Row := [⟨Str.ofString "packed", 3, true, -123, #[18, 61]⟩, ⟨Str.ofString "packed", 3, false, -123, #[18, 63]⟩, ⟨Str.ofString "packed", 2, true, 1099, #[9, 156]⟩]
def tabD : List Row := [⟨Str.ofString "binary", 4, true, -1, #[255, 255]⟩, ⟨Str.ofString "binary", 4, false, -1, #[0, 1]⟩, ⟨Str.ofString "binary", 5, true, 100000 + 256, #[0, 0, 1, 0]⟩]
def tabE : List Row := [⟨Str.ofString "binary", 9, true, -999999999, #[196, 101, 54, 1]⟩, ⟨Str.ofString "binary", 10, true, -2, #[255, 255, 255, 255, 255, 255, 255, 254]⟩, ⟨Str.ofString "index", 9, true, -3, #[255, 255, 255, 253]⟩]
def tabF : List Row := [⟨Str.ofString "packed", 18, true, 5, #[0, 0, 0, 0, 0, 0, 0, 0, 0, 92]⟩, ⟨Str.ofString "trail", 1, true, 7, #[71]⟩, ⟨Str.ofString "lead", 1, true, -9, #[82]⟩]
theorem table_parts : tableL = tabA ++ tabB ++ tabC ++ tabD ++ tabE ++ tabF := rfl
theorem RowsAre.mono {os os' : List (Addr × Obj)} (hs : ∀ p ∈ os, p ∈ os') : ∀ {l : List Row} {ts : List Value}, RowsAre os l ts → RowsAre os' l ts
  | _, _, .nil => .nil
  | _, _, .cons h r => .cons (hs _ h) (r.mono hs)
theorem RowsAre.append {os : List (Addr × Obj)} {l' : List Row} {ts' : List Value} (h' : RowsAre os l' ts') {l : List Row} {ts : List Value} (h : RowsAre os l ts) : RowsAre os (l ++ l') (ts ++ ts') := by
  induction h with
  | nil => exact h'
  | cons h _ ih => exact .cons h ih
theorem RowsAre.length {os : List (Addr × Obj)} : ∀ {l : List Row} {ts : List Value}, RowsAre os l ts → ts.length = l.length
  | _, _, .nil => rfl
  | _, _, .cons _ r => congrArg (· + 1) r.length
theorem rows_add {prog : Program} {w : World} {A : Around} {E : Value → Shared → Prop} {s : Shared} {h₀ : Heap} {L a b : Addr} {m : Str → Option Value} {news : List (Addr × Obj)} {t1 t2 : List Value} {n1 n2 : Nat} {Q : Value → Shared → Prop} (F : Fr h₀ L s.heap m) (N : News h₀ L s.heap news)
    (m1 : (a, W.listOf t1.toArray n1) ∈ news) (m2 : (b, W.listOf t2.toArray n2) ∈ news) (z1 : t1.length ≤ 50) (z2 : t2.length ≤ 50)
    (h : ∀ D h', Fr h₀ L h' m → News h₀ L h' ((D, W.listOf (t1 ++ t2).toArray 0) :: news) → Q (.ref D) { s with heap := h' }) : wpAny (model prog w) A (binaryOp .Add (.ref a) (.ref b)) Q E s :=
  add_lists F N ⟨_, (N _ m1).1, rfl, _, rfl⟩ ⟨_, (N _ m2).1, rfl, _, rfl⟩ (fun h' F' N' => h _ h' F' N') (by rw [sizeLine_eq]; (first | lia | omega))
inductive RowMark : Prop
  | mk : RowMark
theorem toks_any {α : Type} {M : Model} {A : Around} {m : Sem α} {Q : α → Shared → Prop} {E : Value → Shared → Prop} {s : Shared} (h : ∀ tk, wpAny M A m Q E { s with toks := tk }) : wpAny M A m Q E s := h s.toks
/-- the rows so far: what they are, and no more -/
theorem rows_fold {g h : Heap} {L R : Addr} {m : Str → Option Value} {all : List (Addr × Obj)} {l : List Row} {ts : List Value} {n : Nat} (F : Fr g L h m) (N : News g L h all) (hm : m (Str.ofString "rows") = some (.ref R)) (hR : (R, W.listOf ts.toArray n) ∈ all) (hA : RowsAre all l ts) :
    ∃ (m' : Str → Option Value) (os : List (Addr × Obj)) (R' : Addr) (ts' : List Value) (n' : Nat), Fr g L h (fun y => if y = Str.ofString "rows" then some (.ref R') else m' y) ∧ News g L h ((R', W.listOf ts'.toArray n') :: os) ∧ RowsAre os l ts' ∧ ts'.length = l.length := by
  refine ⟨m, all, R, ts, n, ?_, fun p hp => ?_, hA, hA.length⟩
  · have e : m = fun y => if y = Str.ofString "rows" then some (.ref R) else m y := by
      funext y
      by_cases e1 : y = Str.ofString "rows"
      · rw [if_pos e1, e1, hm]
      · rw [if_neg e1]
    rw [← e]; exact F
  · rcases List.mem_cons.mp hp with rfl | hp
    · exact N _ hR
    · exact N _ hp
theorem wd71 : True := by
  k_with "mine exec Assign" => ((k_here; (rename RowMark => hHM); refine Held.mk ?_))
  k_with "mine exec Return some" => ((k_here; (rename RowMark => hHM); refine Held.mk ?_))
  k_with "mine binaryOp Add ref ref" => ((k_here; (with_reducible show wpAny _ _ (binaryOp _ (Value.ref _) (Value.ref _)) _ _ _); k_dflt (refine' rows_add ?Fq880 ?Nq880 ?aq880 ?bq880 ?yq880 ?zq880 ?_; (case Fq880 => k_asm); (case Nq880 => k_asm); (case aq880 => k_mem); (case bq880 => k_mem); (case yq880 => first | exact Nat.le_of_ble_eq_true rfl | (rw [‹List.length _ = _›]; exact Nat.le_of_ble_eq_true rfl)); (case zq880 => exact Nat.le_of_ble_eq_true rfl)); intro D' h' F' N'; (try k_sweep)))
  trivial
theorem law_table_spec (w : World) :
    Spec w (hd.heap_1 w.params) 509 [] [] 1 (fun v new => ∃ D n ts, v = .ref D ∧ (D, W.listOf ts.toArray n) ∈ new ∧ RowsAre new tableL ts) := by
  unfold Spec
  intro dp un gd cn cs a ccd cl outer A₀ base h₀ L m mg mb mean news s Q E B F X N T hk hs hroom hun ret
  refine enterC (binds := []) B F X N T rfl rfl hk hs (by k_is) (by k_is) (show dp < recursionLimit from Nat.lt_of_le_of_lt (Nat.le_add_right _ _) hroom) (BindsTo.of_eq rfl) (locs rfl) ret ?_ rfl rfl rfl (by decide)
  clear B F X N T ret hs
  intro g L' h₁ gs5 dr5 tk os5 F' N' B' X' T' l1
  (try dsimp only)
  show wpAny _ _ _ _ _ _
  k_fold
  walk1
  walk1
  have hHM : RowMark := RowMark.mk
  k_extra "my steps"
  unfold Held
  clear hHM
  refine toks_any fun tk7 => ?_
  dsimp only
  rename Fr _ _ _ _ => hF
  rename News _ _ _ _ => hN
  obtain ⟨m0, os0, R0, ts0, n0, hF0, hN0, hA0, hl0⟩ := rows_fold (l := tabA) hF hN rfl (by k_mem) (by unfold tabA; (repeat (refine RowsAre.cons (by k_mem) ?_)); exact RowsAre.nil)
  clear hF hN
  walk1
  have hHM : RowMark := RowMark.mk
  k_extra "my steps"
  unfold Held
  clear hHM
  refine toks_any fun tk7 => ?_
  dsimp only
  rename Fr _ _ _ _ => hF
  rename News _ _ _ _ => hN
  obtain ⟨m1, os1, R1, ts1, n1, hF1, hN1, hA1, hl1⟩ := rows_fold (l := tabA ++ tabB) hF hN rfl (List.Mem.head _) (by refine RowsAre.append (l := tabA) (l' := tabB) (ts := ts0) (ts' := [_, _, _, _]) ?_ ?_; rotate_left; exact RowsAre.mono (fun _ h => List.mem_cons_of_mem _ (List.mem_cons_of_mem _ (List.mem_cons_of_mem _ (List.mem_cons_of_mem _ (List.mem_cons_of_mem _ (List.mem_cons_of_mem _ (List.mem_cons_of_mem _ h))))))) hA0; unfold tabB; exact RowsAre.cons (by k_mem) (RowsAre.cons (by k_mem) (RowsAre.cons (by k_mem) (RowsAre.cons (by k_mem) RowsAre.nil))))
  clear hF hN; (try clear hF0); (try clear hN0); (try clear hA0); (try clear hl0)
  walk1
  have hHM : RowMark := RowMark.mk
  k_extra "my steps"
  unfold Held
  clear hHM
  refine toks_any fun tk7 => ?_
  dsimp only
  rename Fr _ _ _ _ => hF
  rename News _ _ _ _ => hN
  obtain ⟨m2, os2, R2, ts2, n2, hF2, hN2, hA2, hl2⟩ := rows_fold (l := tabA ++ tabB ++ tabC) hF hN rfl (List.Mem.head _) (by refine RowsAre.append (l := tabA ++ tabB) (l' := tabC) (ts := ts1) (ts' := [_, _, _]) ?_ ?_; rotate_left; exact RowsAre.mono (fun _ h => List.mem_cons_of_mem _ (List.mem_cons_of_mem _ (List.mem_cons_of_mem _ (List.mem_cons_of_mem _ (List.mem_cons_of_mem _ (List.mem_cons_of_mem _ h)))))) hA1; unfold tabC; exact RowsAre.cons (by k_mem) (RowsAre.cons (by k_mem) (RowsAre.cons (by k_mem) RowsAre.nil)))
  clear hF hN; (try clear hF1); (try clear hN1); (try clear hA1); (try clear hl1)
  walk1
  have hHM : RowMark := RowMark.mk
  k_extra "my steps"
  unfold Held
  clear hHM
  refine toks_any fun tk7 => ?_
  dsimp only
  rename Fr _ _ _ _ => hF
  rename News _ _ _ _ => hN
  obtain ⟨m3, os3, R3, ts3, n3, hF3, hN3, hA3, hl3⟩ := rows_fold (l := tabA ++ tabB ++ tabC ++ tabD) hF hN rfl (List.Mem.head _) (by refine RowsAre.append (l := tabA ++ tabB ++ tabC) (l' := tabD) (ts := ts2) (ts' := [_, _, _]) ?_ ?_; rotate_left; exact RowsAre.mono (fun _ h => List.mem_cons_of_mem _ (List.mem_cons_of_mem _ (List.mem_cons_of_mem _ (List.mem_cons_of_mem _ (List.mem_cons_of_mem _ (List.mem_cons_of_mem _ h)))))) hA2; unfold tabD; exact RowsAre.cons (by k_mem) (RowsAre.cons (by k_mem) (RowsAre.cons (by k_mem) RowsAre.nil)))
  clear hF hN; (try clear hF2); (try clear hN2); (try clear hA2); (try clear hl2)
  walk1
  have hHM : RowMark := RowMark.mk
  k_extra "my steps"
  unfold Held
  clear hHM
  refine toks_any fun tk7 => ?_
  dsimp only
  rename Fr _ _ _ _ => hF
  rename News _ _ _ _ => hN
  obtain ⟨m4, os4, R4, ts4, n4, hF4, hN4, hA4, hl4⟩ := rows_fold (l := tabA ++ tabB ++ tabC ++ tabD ++ tabE) hF hN rfl (List.Mem.head _) (by refine RowsAre.append (l := tabA ++ tabB ++ tabC ++ tabD) (l' := tabE) (ts := ts3) (ts' := [_, _, _]) ?_ ?_; rotate_left; exact RowsAre.mono (fun _ h => List.mem_cons_of_mem _ (List.mem_cons_of_mem _ (List.mem_cons_of_mem _ (List.mem_cons_of_mem _ (List.mem_cons_of_mem _ (List.mem_cons_of_mem _ h)))))) hA3; unfold tabE; exact RowsAre.cons (by k_mem) (RowsAre.cons (by k_mem) (RowsAre.cons (by k_mem) RowsAre.nil)))
  clear hF hN; (try clear hF3); (try clear hN3); (try clear hA3); (try clear hl3)
  walk1
  k_extra "my steps"
  show Ends _ _ _ _ _ _
  rename Fr _ _ _ _ => hF
  rename News _ _ _ _ => hN
  refine Ends.intro _ hF hN (fun _ h => nomatch h) (fun p hp => hp) (fun _ h => nomatch h) ⟨_, _, _, rfl, List.Mem.head _, ?_⟩
  rw [table_parts]
  refine RowsAre.append (l := tabA ++ tabB ++ tabC ++ tabD ++ tabE) (l' := tabF) (ts := ts4) (ts' := [_, _, _]) ?_ ?_
  rotate_left
  · exact RowsAre.mono (fun _ h => List.mem_cons_of_mem _ (List.mem_cons_of_mem _ (List.mem_cons_of_mem _ (List.mem_cons_of_mem _ (List.mem_cons_of_mem _ (List.mem_cons_of_mem _ h)))))) hA4
  · unfold tabF
    exact RowsAre.cons (by k_mem) (RowsAre.cons (by k_mem) (RowsAre.cons (by k_mem) RowsAre.nil))
end
theorem wd72 : True := by
  k_with_none
  k_with "my fold" => (((first | (with_reducible show wpAny _ _ (exec (PySem.Stmt.Assign _ _ _) _) _ _ _) | (with_reducible show wpAny _ _ (exec (PySem.Stmt.Return _ _) _) _ _ _) | (with_reducible show wpAny _ _ (exec (PySem.Stmt.If _ _ _ _) _) _ _ _) | (with_reducible show wpAny _ _ (exec (PySem.Stmt.Expr _ _) _) _ _ _) | (with_reducible show wpAny _ _ (exec (PySem.Stmt.AugAssign _ _ _ _) _) _ _ _) | (with_reducible show wpAny _ _ (eval (PySem.Expr.BinOp _ _ _ _) _) _ _ _) | (with_reducible show wpAny _ _ (eval (PySem.Expr.Call _ _ _ _) _) _ _ _)); (fail_if_success (fail_if_success k_fold)); refine (let qk := _; keepQ qk ?_)))
  k_with "my get" => (assumption)
  k_with "mine call type:range" => ((k_here; (rename Fr _ _ _ _ => F'); (rename News _ _ _ _ => N'); (with_unfolding_all refine range1_rows F' N' ?_; intro _ _ _ _ _ _ _ _ _)))
  k_with "my steps" => (repeat' (first | ((fail_if_success (fail_if_success k_unfold)); (try dsimp only); refine (?_ : wpAny _ _ _ _ _ _)) | (k_unfold; (try dsimp only)) | k_extra "my fold" | ((fail_if_success (with_reducible show wpAny _ _ (pyIter _) (fun it s₂ => LoopAtV _ _ _ _ _ _ _ _ _ it s₂) _ _)); (fail_if_success (with_reducible show wpAny _ _ (pyIter _) (fun it s₂ => PairAt3 _ _ _ _ _ _ _ _ _ _ it s₂) _ _)); (fail_if_success (with_reducible show LoopStep3 _ _ _ _ _ _ _ _ _ _)); (fail_if_success (with_reducible show InvEndN _ _ _ _ _ _ _)); (fail_if_success (with_reducible show Ends _ _ _ _ _ _)); first | walk1 | (dsimp only; walk1) | (dsimp only; k_unfold; (try dsimp only)))))
  k_with "my plain steps" => (repeat' (first | ((fail_if_success (fail_if_success k_unfold)); (try dsimp only); refine (?_ : wpAny _ _ _ _ _ _)) | (k_unfold; (try dsimp only)) | ((fail_if_success (with_reducible show wpAny _ _ (pyIter _) (fun it s₂ => LoopAtV _ _ _ _ _ _ _ _ _ it s₂) _ _)); (fail_if_success (with_reducible show wpAny _ _ (pyIter _) (fun it s₂ => PairAt3 _ _ _ _ _ _ _ _ _ _ it s₂) _ _)); (fail_if_success (with_reducible show LoopStep3 _ _ _ _ _ _ _ _ _ _)); (fail_if_success (with_reducible show InvEndN _ _ _ _ _ _ _)); (fail_if_success (with_reducible show Ends _ _ _ _ _ _)); first | walk1 | (dsimp only; walk1) | (dsimp only; k_unfold; (try dsimp only)))))
  k_with "my bytes" => (first | exact all48 (by assumption) | (refine all_cons (by decide) ?_; k_extra "my bytes") | (refine all_snoc (by decide) ?_; k_extra "my bytes"))
  k_with "my size" => (first | (first | lia | omega) | ((try simp only [List.length_map, List.length_cons, List.length_append, List.length_nil, List.length_set, List.length_reverse, lits_length, figs_length, stepKs_length]); (first | lia | omega)))
  k_with "mine call type:bytes" => ((k_here; (with_reducible show wpAny _ _ (call (Value.type "bytes") [Value.ref _]) _ _ _); k_dflt (refine' bytesOf_K ?Fq888 ?Nq888 ?mq888 ?iq888 ?rq888 ?zq888 ?hq888 ?_; (case Fq888 => k_asm); (case Nq888 => k_asm); (case mq888 => k_mem); (case iq888 => assumption); (case rq888 => k_extra "my bytes"); (case zq888 => k_extra "my size"); (case hq888 => exact rfl); k_whole); intro h' t' k' F' N'; (try k_sweep)))
  k_with "my bytes" => ((refine all_set (u8_in _) ?_; k_extra "my bytes"))
  k_with "my byte at" => ((refine fig_at (by assumption) ?_; k_extra "my size"))
  k_with "mine subscriptTail" => ((k_here; (with_reducible show wpAny _ _ (subscriptTail _ _ (Value.bytes _ _) (Value.int _ _)) _ _ _); k_dflt (refine' bytesItem_K ?aq891 ?bq891 ?_ ?hsq891 ?htq891; (case aq891 => k_extra "my byte at"); (case bq891 => decide); (case hsq891 => with_unfolding_all rfl); (case htq891 => intro _; with_unfolding_all rfl))))
  k_with "my index" => (first | (first | lia | omega) | decide | assumption)
  k_with "mine compareOp In" => ((k_here; (with_reducible show wpAny _ _ (compareOp CmpOp.In (Value.int _ _) (Value.bytes _ _)) _ _ _); k_dflt (refine' in_bytes ?aq893 ?bq893 ?_; (case aq893 => (first | lia | omega)); (case bq893 => (first | lia | omega)))))
  k_with "mine getMethod" => ((k_here; (with_reducible show wpAny _ _ (getMethod (Value.bytes _ _) "index" _) _ _ _); refine index_method ?_))
  k_with "mine call builtin:bytes.index" => ((k_here; (with_reducible show wpAny _ _ (call (Value.builtin "bytes.index") [Value.bytes _ _, Value.int _ _]) _ _ _); k_dflt (refine' bytes_index _ ?aq895 ?bq895 ?cq895 ?dq895 ?_; (case aq895 => (first | lia | omega)); (case bq895 => (first | lia | omega)); (case cq895 => decide); (case dq895 => assumption)); intro _ _; (try dsimp only)))
  k_with "mine subscriptTail" => ((k_here; (with_reducible show wpAny _ _ (subscriptTail _ _ (Value.bytes (byteArr _) _) (Value.int _ _)) _ _ _); k_dflt (refine' bytesInt_K ?aq896 ?bq896 ?rq896 ?zq896 ?_ ?hsq896 ?htq896; (case aq896 => (first | lia | omega)); (case bq896 => assumption); (case rq896 => first | assumption | k_extra "my bytes"); (case zq896 => k_extra "my size"); (case hsq896 => with_unfolding_all rfl); (case htq896 => intro _; with_unfolding_all rfl)); intro _ _; (try dsimp only)))
  k_with "my pick" => ((with_reducible first | exact kmk_upto (by l_ints) (by (first | lia | omega)) | exact kmk_from (by l_ints) (by (first | lia | omega)) | exact kmk_upto_neg (by l_ints) (by (first | lia | omega)) | exact kmk_from_neg (by l_ints) (by (first | lia | omega))))
  k_with "mine subscriptTail Name Slice ref ref" => ((k_here; (with_reducible show wpAny _ _ (subscriptTail _ (PySem.Expr.Slice _ _ none _) (Value.ref _) (Value.ref _)) _ _ _); k_dflt (refine' kmk_slice_ints ?Fq898 ?Nq898 ?lq898 ?pq898 ?qq898 ?iq898 ?mq898 ?cq898 ?_ ?sq898 ?tq898 ?zq898; (case Fq898 => k_asm); (case Nq898 => k_asm); (case lq898 => kmk_list); (case pq898 => kmk_part); (case qq898 => kmk_part); (case iq898 => l_ints); (case mq898 => k_extra "my pick"); (case cq898 => kmk_len); (case sq898 => with_unfolding_all rfl); (case tq898 => kmk_pure); (case zq898 => kmk_size)); intro D' ws' h' F' N' l1 hI' hC' hL'; (try k_lt l1); (try k_sweep)))
  k_with "my ints" => (first | l_ints | exact IntsAre.cons _ _ IntsAre.nil | exact IntsAre.cons _ _ (IntsAre.cons _ _ IntsAre.nil))
  k_with "mine binaryOp Add ref ref" => ((k_here; (with_reducible show wpAny _ _ (binaryOp _ (Value.ref _) (Value.ref _)) _ _ _); k_dflt (refine' kmk_add_ints ?Fq900 ?Nq900 ?aq900 ?bq900 ?iq900 ?jq900 ?_ ?zq900; (case Fq900 => k_asm); (case Nq900 => k_asm); (case aq900 => kmk_list); (case bq900 => kmk_list); (case iq900 => k_extra "my ints"); (case jq900 => k_extra "my ints"); (case zq900 => first | ((simp only [sizeLine_eq]); k_extra "my size") | kmk_sum)); intro D' ws' h' F' N' l1 hI'; (try k_lt l1); (try k_sweep)))
  k_with "mine call builtin:len" => ((k_here; (with_reducible show wpAny _ _ (call (Value.builtin "len") [Value.bytes (byteArr _) _]) _ _ _); k_dflt (refine' len_byteArr ?zq901 ?_; (case zq901 => k_extra "my size")); intro _ _; (try dsimp only)))
  k_with "mine call builtin:ord" => ((k_here; (with_reducible show wpAny _ _ (call (Value.builtin "ord") [Value.str _ _]) _ _ _); refine ord_of_char ?_; (try dsimp only)))
  k_with "my text slice" => (((with_reducible rename Fr _ _ _ _ => F'); (with_reducible rename News _ _ _ _ => N'); first | ((with_reducible show wpAny _ _ (subscriptTail _ (Expr.Slice none (some _) none _) _ _) _ _ _); (refine slice_strN_ns_len (hsz := ?hszq903) (s := ⟨_, _, _, _, _⟩) F' N' ?_); (case hszq903 => rw [sizeLine_eq]; (first | lia | omega))) | ((with_reducible show wpAny _ _ (subscriptTail _ (Expr.Slice (some _) none none _) _ _) _ _ _); (refine slice_strN_sn_len (hsz := ?hszq903) (s := ⟨_, _, _, _, _⟩) F' N' ?_); (case hszq903 => rw [sizeLine_eq]; (first | lia | omega)))))
  k_with "my units" => (((try simp only [units_in1, units_deeper, Around.mark_units]); (try dsimp only [ktrTop]); (first | lia | omega)))
  k_with "my tail" => ((first | assumption | (refine' And.right ?_; first | assumption | (refine' And.right ?_; first | assumption | (refine' And.right ?_; first | assumption | (refine' And.right ?_; first | assumption | (refine' And.right ?_; first | assumption | (refine' And.right ?_; first | assumption | (refine' And.right ?_; first | assumption | (refine' And.right ?_; first | assumption | (refine' And.right ?_; assumption)))))))))))
  k_with "my conj" => (first | k_extra "my tail" | (refine' And.left ?_; k_extra "my tail") | (refine' And.left ?_; refine' And.left ?_; k_extra "my tail") | (refine' And.right ?_; refine' And.left ?_; k_extra "my tail"))
  k_with "my ne" => ((refine neN ?_; (try dsimp only); first | (refine' Nat.ne_of_lt ?_; k_extra "my conj") | (refine' Nat.ne_of_gt ?_; k_extra "my conj") | k_extra "my conj" | (refine' Ne.symm ?_; k_extra "my conj") | (first | lia | omega)))
  k_with "my sides" => (((case k1 => k_asm); (case k2 => k_asm); (case k3 => k_asm); (case k4 => k_asm); (case k5 => k_asm); (case kK => first | assumption | exact rfl); (case ks => kcj_all); (case kd => first | ((try simp only [depth_mark, depth_under_make, depth_under_kw, depth_in1, depth_deeper]); (try dsimp only [ktrTop]); first | (refine' room3 ?hhq908 ?llq908; (case hhq908 => assumption); (case llq908 => exact Nat.le_of_ble_eq_true rfl)) | (first | lia | omega)) | (with_unfolding_all exact Nat.le_of_ble_eq_true rfl)); (case ku => first | ((try simp only [units_in1, units_deeper, Around.mark_units]); (try dsimp only [ktrTop]); first | (refine' room3 ?hhq908 ?llq908; (case hhq908 => assumption); (case llq908 => exact Nat.le_of_ble_eq_true rfl)) | (first | lia | omega)) | (with_unfolding_all exact Nat.le_of_ble_eq_true rfl))))
  trivial
section
inductive RowOk (r : Row) : Prop
  | mk (cat us sn : Str) (size : Nat) (sep : Bool) : (KindIs r.kd cat us sn r.d size r.sg sep) → (1 ≤ r.d) → (r.d ≤ 18) → (byteArr (octs us size r.d r.sg sep (sn == Str.ofString "leading") (kept r.d r.sg r.u)) = r.b) →
    RowOk r
theorem table_ok : ∀ r ∈ tableL, RowOk r := by
  unfold tableL
  simp only [List.forall_mem_cons, List.forall_mem_nil, and_true]
  refine ⟨?_, ?_, ?_, ?_, ?_, ?_, ?_, ?_, ?_, ?_, ?_, ?_, ?_, ?_, ?_, ?_, ?_, ?_, ?_, ?_, fun _ h => nomatch h⟩
  · exact ⟨_, _, _, _, _, .trail 3 true, by decide, by decide, by decide +kernel⟩
  · exact ⟨_, _, _, _, _, .trail 3 true, by decide, by decide, by decide +kernel⟩
  · exact ⟨_, _, _, _, _, .lead 3, by decide, by decide, by decide +kernel⟩
  · exact ⟨_, _, _, _, _, .lead 3, by decide, by decide, by decide +kernel⟩
  · exact ⟨_, _, _, _, _, .trail 3 true, by decide, by decide, by decide +kernel⟩
  · exact ⟨_, _, _, _, _, .trail 3 false, by decide, by decide, by decide +kernel⟩
  · exact ⟨_, _, _, _, _, .ta 2, by decide, by decide, by decide +kernel⟩
  · exact ⟨_, _, _, _, _, .la 2, by decide, by decide, by decide +kernel⟩
  · exact ⟨_, _, _, _, _, .packed 3 true, by decide, by decide, by decide +kernel⟩
  · exact ⟨_, _, _, _, _, .packed 3 false, by decide, by decide, by decide +kernel⟩
  · exact ⟨_, _, _, _, _, .packed 2 true, by decide, by decide, by decide +kernel⟩
  · exact ⟨_, _, _, _, _, .binary 4 true, by decide, by decide, by decide +kernel⟩
  · exact ⟨_, _, _, _, _, .binary 4 false, by decide, by decide, by decide +kernel⟩
  · exact ⟨_, _, _, _, _, .binary 5 true, by decide, by decide, by decide +kernel⟩
  · exact ⟨_, _, _, _, _, .binary 9 true, by decide, by decide, by decide +kernel⟩
  · exact ⟨_, _, _, _, _, .binary 10 true, by decide, by decide, by decide +kernel⟩
  · exact ⟨_, _, _, _, _, .idx, by decide, by decide, by decide +kernel⟩
  · exact ⟨_, _, _, _, _, .packed 18 true, by decide, by decide, by decide +kernel⟩
  · exact ⟨_, _, _, _, _, .trail 1 true, by decide, by decide, by decide +kernel⟩
  · exact ⟨_, _, _, _, _, .lead 1, by decide, by decide, by decide +kernel⟩
end
section
section
variable {prog : Program} {w : World} {A : Around} {E : Value → Shared → Prop} {s : Shared} {env : Env} {h₀ : Heap} {elts : List PySem.Expr} {x1 : Nat} {tp : Pos} {body : List Stmt} {Q : Flow → Shared → Prop}
/-- a loop over a list of the ledger, any target -/
theorem kdt_iter {l : Addr} {vs : List Value} {nn : Nat} {m₀ : Str → Option Value} {news : List (Addr × Obj)} (J : Nat → (Str → Option Value) → List (Addr × Obj) → Prop)
    (hh : A.handled = none) (hl : (l, W.listOf vs.toArray nn) ∈ news) (F : Fr h₀ env.locals s.heap m₀) (N : News h₀ env.locals s.heap news) (hj : J 0 m₀ news)
    (turn : ∀ i v m₁ news₁ (s₁ : Shared) own, vs[i]? = some v → OwnOff own (news₁.map (·.1)) → (l, W.listOf vs.toArray nn) ∈ news₁ → J i m₁ news₁ → Fr h₀ env.locals s₁.heap m₁ → News h₀ env.locals s₁.heap (news₁ ++ own) →
      wpAny (model prog w) A (assign (.Tuple elts x1 tp) env v) (fun _ s₃ => wpAny (model prog w) A (execs body env) (fun f s₂ => f = .next ∧ InvEndG h₀ env.locals (fun m' nx => (l, W.listOf vs.toArray nn) ∈ nx ∧ J (i + 1) m' nx) own s₁ s₂) E s₃) E s₁)
    (done : ∀ m₁ news₁ h tk, J vs.length m₁ news₁ → Fr h₀ env.locals h m₁ → News h₀ env.locals h news₁ → Q .next { s with heap := h, toks := tk }) :
    wpAny (model prog w) A (pyIter (.ref l)) (fun it s₂ => LoopAtT prog w A h₀ env (.Tuple elts x1 tp) body Q E it s₂) E s := by
  have hol : s.heap.get? l = some (W.listOf vs.toArray nn) := (N _ hl).1
  have hls : s.heap.IsList l vs.toArray := ⟨_, hol, rfl, nn, rfl⟩
  have hne : l ≠ s.heap.objs.size := Nat.ne_of_lt (Heap.lt_size hol)
  refine wpAny_pyIter_list hls ?_
  have Wk := Walks.list (prog := prog) (w := w) hh s.heap.objs.size l hne vs.toArray
  have hlen : vs.toArray.size = vs.length := by simp
  rw [hlen] at Wk
  refine ⟨_, _, _, vs.length, _, _, m₀, news, (fun i m nx => (l, W.listOf vs.toArray nn) ∈ nx ∧ J i m nx), rfl, Wk, ?_, ?_, ?_, ⟨⟨_, Heap.get?_push_size _ rfl, rfl, rfl⟩, hls.at fun o e => Heap.get?_push_of_some _ e⟩, F.push _, (fun p hp => ⟨Heap.get?_push_of_some _ (N p hp).1, (N p hp).2⟩), ?_, ⟨hl, hj⟩, ?_, ?_⟩
  · intro hm
    rcases List.mem_cons.mp hm with e | hm
    · exact absurd F.ns.lt (e ▸ Nat.lt_irrefl _)
    · exact (N _ hl).2.1 ((List.mem_singleton.mp hm).symm)
  · intro b hb
    rw [List.mem_singleton.mp hb]
    exact next_is_new F
  · intro p hp hI
    exact absurd (Heap.lt_size (N p hp).1) ((List.mem_singleton.mp hI) ▸ Nat.lt_irrefl _)
  · intro i s' v Q' st hq
    cases v with
    | ref t => exact wpAny_letOwnedTupleGo_listiter st.1 hq
    | _ => exact wpAny_pure hq
  · rintro i v m₁ news₁ s₁ own hin hP ⟨hl₁, hJ⟩ hoff hown hget hfp hst F₁ N₁
    have hP' : vs[i]? = some v := by simpa using hP
    have hI0 : h₀.get? s.heap.objs.size = none := next_is_new F
    obtain ⟨⟨oI, hoI, _⟩, _⟩ := id hst
    have hIown : (s.heap.objs.size, oI) ∈ own.filter fun p => decide (p.1 = s.heap.objs.size) := List.mem_filter.mpr ⟨hfp _ (List.mem_cons.mpr (.inl rfl)) hI0 _ hoI, by simp⟩
    have hsep : OwnOff (own.filter fun p => decide (p.1 = s.heap.objs.size)) (news₁.map (·.1)) := by
      intro p hp b hb e
      obtain ⟨q, hq, rfl⟩ := List.mem_map.mp hb
      have h1 : p.1 = s.heap.objs.size := by simpa using (List.mem_filter.mp hp).2
      exact hoff q hq (List.mem_singleton.mpr (e ▸ h1))
    have N₂ : News h₀ env.locals s₁.heap (news₁ ++ own.filter fun p => decide (p.1 = s.heap.objs.size)) := fun p hp => N₁ p ((List.mem_append.mp hp).elim (fun h => List.mem_append.mpr (.inr h)) fun h => List.mem_append.mpr (.inl ((List.mem_filter.mp h).1)))
    have hlo : s₁.heap.get? l = some (W.listOf vs.toArray nn) := (N₁ _ (List.mem_append.mpr (.inr hl₁))).1
    refine wpAny_mono (turn i v m₁ news₁ s₁ _ hP' hsep hl₁ hJ F₁ N₂) (fun _ s₃ h₃ => wpAny_mono h₃ (fun f s₂ p => ?_) fun _ _ e => e) fun _ _ e => e
    obtain ⟨rfl, h', tk, m', news', nx, e, F', N', hn, ho, ha, hln, hm⟩ := p
    refine ⟨rfl, h', tk, m', nx, e, F', fun p hp => ?_, fun p hp hq => ?_, hln, hm⟩
    · rcases List.mem_append.mp hp with hp | hp
      · rcases List.mem_cons.mp (hown p hp) with h1 | h1
        · exact N' p (ho p (List.mem_filter.mpr ⟨hp, by simp [h1]⟩))
        · have h2 : p.1 = l := List.mem_singleton.mp h1
          have h3 := hget p hp
          rw [h2, hlo] at h3
          have h4 : p = (l, W.listOf vs.toArray nn) := Prod.ext h2 (Option.some.inj h3).symm
          rw [h4]; exact N' _ (hn _ hln)
      · exact N' p (hn p hp)
    · have h1 : p.1 = s.heap.objs.size := List.mem_singleton.mp hq
      exact ha _ hIown p.1 (List.mem_map.mpr ⟨p, hp, rfl⟩) h1.symm
  · rintro h' tk m' news' F' N' _ ⟨_, hJ⟩
    exact done m' news' h' tk hJ F' N'
end
theorem RowsAre.at {os : List (Addr × Obj)} : ∀ {l : List Row} {ts : List Value} {i : Nat} {v : Value}, RowsAre os l ts → ts[i]? = some v → ∃ (r : Row) (T : Addr) (t1 t2 t3 t4 : Tok), r ∈ l ∧ v = Value.ref T ∧ (T, rowObj r t1 t2 t3 t4) ∈ os
  | _, _, 0, _, .cons (r := r) h _, e => by cases e; exact ⟨r, _, _, _, _, _, List.Mem.head _, rfl, h⟩
  | _, _, i + 1, v, .cons _ hr, e => by
    obtain ⟨r, T, t1, t2, t3, t4, h1, h2, h3⟩ := RowsAre.at (i := i) hr e
    exact ⟨r, T, t1, t2, t3, t4, List.mem_cons_of_mem _ h1, h2, h3⟩
theorem known1 {m : Str → Option Value} {a : Str} {u : Option Value} (h1 : m a = u) : m = fun y => if y = a then u else m y := by
  funext y
  by_cases e1 : y = a
  · rw [if_pos e1, e1, h1]
  · rw [if_neg e1]
inductive TabJ (ax aO aL : Addr) (rest : List (Addr × Obj)) (m : Str → Option Value) (nx : List (Addr × Obj)) : Prop
  | mk (u : Str → Option Value) (oO oL : Obj) (v v' : Option Value) : (m = (fun y => if y = Str.ofString "script" then some (.ref ax) else u y)) → (nx = (aL, oL) :: (aO, oO) :: rest) → (oO.data = .cell v) → (oL.data = .cell v') →
    TabJ ax aO aL rest m nx
theorem tab_rest {aL aO : Addr} {oL oO wL wO : Obj} {new' own : List (Addr × Obj)} (hne : ∀ q ∈ [(aL, wL), (aO, wO)], ∀ p ∈ new', p.1 ≠ q.1) (hoff : OwnOff own (((aL, oL) :: (aO, oO) :: new').map (·.1))) : OwnOff (new' ++ own) [aL, aO] := by
  intro p hp b hb
  rcases List.mem_cons.mp hb with rfl | hb
  · rcases List.mem_append.mp hp with hp | hp
    · exact hne _ (List.Mem.head _) p hp
    · exact hoff p hp _ (List.Mem.head _)
  · rw [List.mem_singleton.mp hb]
    rcases List.mem_append.mp hp with hp | hp
    · exact hne _ (List.Mem.tail _ (List.Mem.head _)) p hp
    · exact hoff p hp _ (List.Mem.tail _ (List.Mem.head _))
theorem tab_news {g h : Heap} {L aL aO : Addr} {oL oO : Obj} {new' own : List (Addr × Obj)} {t : Addr × Obj} (N : News g L h (((aL, oL) :: (aO, oO) :: new') ++ own)) (hT : t ∈ new') : News g L h ((aL, oL) :: (aO, oO) :: t :: (new' ++ own)) := fun p hp => N p (by
  rcases List.mem_cons.mp hp with rfl | hp
  · exact List.Mem.head _
  rcases List.mem_cons.mp hp with rfl | hp
  · exact List.Mem.tail _ (List.Mem.head _)
  rcases List.mem_cons.mp hp with rfl | hp
  · exact List.mem_append.mpr (.inl (List.mem_cons_of_mem _ (List.mem_cons_of_mem _ hT)))
  · exact List.mem_cons_of_mem _ (List.mem_cons_of_mem _ hp))
theorem tab_ne {aL aO : Addr} {wL wO : Obj} {new' : List (Addr × Obj)} {t : Addr × Obj} (hne : ∀ q ∈ [(aL, wL), (aO, wO)], ∀ p ∈ new', p.1 ≠ q.1) (hT : t ∈ new') : ¬ (@Eq Nat t.1 aL) ∧ ¬ (@Eq Nat t.1 aO) := ⟨hne _ (List.Mem.head _) t hT, hne _ (List.Mem.tail _ (List.Mem.head _)) t hT⟩
theorem law_shape_row (w : World) (tk td ts : Tok) {kd cat us sn : Str} {d size : Nat} {sg sep : Bool} (h : KindIs kd cat us sn d size sg sep) (hd1 : 1 ≤ d) (hd2 : d ≤ 18) :
    Spec w (hd.heap_1 w.params) 516 [.str kd tk, .int d td, .int 0 ts, .bool sg] [] 12 (ShpPost cat us sn d size sg sep) :=
  law_shape_all w tk td ts (sc := 0) h hd1 hd2 (Nat.zero_le _) (pic_text sg d 0 hd1 hd2 (Nat.zero_le _))
theorem bytes_same {prog : Program} {w : World} {A : Around} {E : Value → Shared → Prop} {s : Shared} {a b : Array UInt8} {t u : Tok} {Q : Value → Shared → Prop} (h : a = b) (k : Q (.bool false) s) : wpAny (model prog w) A (compareOp .NotEq (.bytes a t) (.bytes b u)) Q E s := by
  subst h
  refine ne_bytes ?_
  have e : (a.toList != a.toList) = false := by simp
  first
  | (rw [e]; exact k)
  | (simpa using k)
theorem tab_step {g h' : Heap} {L ax aO aL D : Addr} {oO oL o' ol : Obj} {all new' own : List (Addr × Obj)} {m' : Str → Option Value} {h5 : Heap} {g5 : Array GenState} {d5 : Drawn} {t5 : Nat} {o5 : OsState} {tk : Nat} {v v' : Option Value} (F : Fr g L h' m') (N : News g L h' all) (e : m' (Str.ofString "script") = some (.ref ax)) (m1 : (aL, oL) ∈ all) (m2 : (aO, o') ∈ all)
    (hrest : ∀ p ∈ new' ++ own, p ∈ all) (hoff : OwnOff own (((aL, oL) :: (aO, oO) :: new').map (·.1))) (hl : (D, ol) ∈ new') (c1 : oL.data = .cell v') (c2 : o'.data = .cell v) :
    InvEndG g L (fun m' nx => (D, ol) ∈ nx ∧ TabJ ax aO aL new' m' nx) own ⟨h5, g5, d5, t5, o5⟩ ⟨h', g5, d5, tk, o5⟩ := by
  refine InvEndG.intro (nx := (aL, oL) :: (aO, o') :: new') F N ⟨List.mem_cons_of_mem _ (List.mem_cons_of_mem _ hl), m', o', oL, v, v', known1 e, rfl, c2, c1⟩ hoff ?_ fun p hp => hrest p (List.mem_append.mpr (.inr hp))
  intro p hp
  rcases List.mem_cons.mp hp with rfl | hp
  · exact m1
  rcases List.mem_cons.mp hp with rfl | hp
  · exact m2
  · exact hrest p (List.mem_append.mpr (.inl hp))
theorem For_invVF {prog : Program} {w : World} {A : Around} {s : Shared} {env : Env} {h₀ : Heap} {E : Value → Shared → Prop} {Q : Flow → Shared → Prop} {x : Str} {px pos : Pos} {iter : PySem.Expr} {body : List Stmt} {m : Str → Option Value} (_ : Fr h₀ env.locals s.heap m) (hx : env.kindOf x = some .local)
    (hp : (env.scope.kind == .class || (env.scope.kind == .module && env.locals != env.globals)) = false)
    (h : wpAny (model prog w) A (eval iter env) (fun xv s₁ => wpAny (model prog w) A (pyIter xv) (fun it s₂ => LoopAtV prog w A h₀ env x body Q E it s₂) E s₁) E s)
    (hs : ∀ x, foldedSetIterable iter env x = pure x)
    (hE : PassesOwn (model prog w) A env E := by passes_own) :
    wpAny (model prog w) A (exec (.For (.Name x px) iter body [] pos) env) Q E s := For_invV h₀ hx hp h hs hE
inductive CellJ (aO aL DL : Addr) (ol : Obj) (nx : List (Addr × Obj)) : Prop
  | mk (oO oL : Obj) (v v' : Option Value) : (nx = [(DL, ol), (aL, oL), (aO, oO)]) → (oO.data = .cell v) → (oL.data = .cell v') →
    CellJ aO aL DL ol nx
end
section
theorem byteArr_inj {a b : List Int} (ha : ∀ n ∈ a, 0 ≤ n ∧ n < 256) (hb : ∀ n ∈ b, 0 ≤ n ∧ n < 256) (h : byteArr a = byteArr b) : a = b := by
  rw [← bInts_byteArr ha, h, bInts_byteArr hb]
theorem figs_inj {b c n n' : Nat} (hb : 0 < b) (h1 : n < b ^ c) (h2 : n' < b ^ c) (h : (figs b c n).map Int.ofNat = (figs b c n').map Int.ofNat) : n = n' := by
  have e := congrArg (ofFigs (b : Int)) h
  rw [ofFigs_figs hb, ofFigs_figs hb, Nat.mod_eq_of_lt h1, Nat.mod_eq_of_lt h2] at e
  (first | lia | omega)
theorem pack_inj {size d : Nat} {sg : Bool} {u u' : Int} (h1 : 1 ≤ size) (hz : d ≤ 2 * size - 1) (hu : Keeps d sg u) (hu' : Keeps d sg u') (h : packOct size sg u = packOct size sg u') : u = u' := by
  have e := congrArg halvesOf h
  rw [halves_pack h1, halves_pack h1] at e
  have hl : ((figs 10 (2 * size - 1) u.natAbs).map Int.ofNat).length = ((figs 10 (2 * size - 1) u'.natAbs).map Int.ofNat).length := by rw [List.length_map, List.length_map, figs_length, figs_length]
  obtain ⟨e1, e2⟩ := List.append_inj e hl
  have hp : 10 ^ d ≤ 10 ^ (2 * size - 1) := Nat.pow_le_pow_right (by decide) hz
  have ea := figs_inj (by decide) (Nat.lt_of_lt_of_le hu.1 hp) (Nat.lt_of_lt_of_le hu'.1 hp) e1
  have em : packMark sg u = packMark sg u' := by injection e2
  unfold packMark at em
  cases sg with
  | false =>
    have := hu.2 rfl
    have := hu'.2 rfl
    (first | lia | omega)
  | true =>
    simp only [if_true] at em
    split at em <;> split at em <;> (first | lia | omega)
theorem bin_inj {size d : Nat} {u u' : Int} (hz : BinSize d size) (hu : u.natAbs < 10 ^ d) (hu' : u'.natAbs < 10 ^ d) (h : binOct size u = binOct size u') : u = u' := by
  obtain ⟨h1, h2, h3⟩ := hz.room
  obtain ⟨k, rfl⟩ : ∃ k, size = k + 1 := ⟨size - 1, by (first | lia | omega)⟩
  have hk : (k + 1 - 1) = k := by (first | lia | omega)
  rw [hk] at h3
  have hP : (256 : Int) ^ (k + 1) = ((256 ^ (k + 1) : Nat) : Int) := by rw [Int.natCast_pow]; rfl
  have hS : 256 ^ (k + 1) = 256 * 256 ^ k := by rw [Nat.pow_succ, Nat.mul_comm]
  have hpos : 0 < 256 ^ k := Nat.pow_pos (by decide)
  have h4 : (u - u').natAbs < 256 ^ (k + 1) := by
    refine Nat.lt_of_le_of_lt (Int.natAbs_sub_le u u') ?_
    rw [hS]
    clear h hz hP hS
    generalize u.natAbs = a at *
    generalize u'.natAbs = b at *
    generalize 256 ^ k = B at *
    generalize 10 ^ d = D at *
    (first | lia | omega)
  clear h3 hS hpos hz
  have hp : (0 : Int) < ((256 ^ (k + 1) : Nat) : Int) := Int.natCast_pos.mpr (Nat.pow_pos (by decide))
  unfold binOct at h
  rw [hP, Int.fmod_eq_emod_of_nonneg _ (Int.le_of_lt hp), Int.fmod_eq_emod_of_nonneg _ (Int.le_of_lt hp)] at h
  have m1 := Int.emod_nonneg u (Int.ne_of_gt hp)
  have m2 := Int.emod_nonneg u' (Int.ne_of_gt hp)
  have e := figs_inj (b := 256) (c := k + 1) (by decide) ((Int.toNat_lt m1).mpr (Int.emod_lt_of_pos _ hp)) ((Int.toNat_lt m2).mpr (Int.emod_lt_of_pos _ hp)) h
  have e2 := congrArg Int.ofNat e
  rw [Int.ofNat_eq_natCast, Int.ofNat_eq_natCast, Int.toNat_of_nonneg m1, Int.toNat_of_nonneg m2] at e2
  exact Int.sub_eq_zero.mp (Int.eq_zero_of_dvd_of_natAbs_lt_natAbs (Int.dvd_of_emod_eq_zero (Int.emod_eq_emod_iff_emod_sub_eq_zero.mp e2)) h4)
end
section
theorem codes_inj {d n n' : Nat} (h1 : n < 10 ^ d) (h2 : n' < 10 ^ d) (h : codesOf d n = codesOf d n') : n = n' := by
  have e := congrArg (List.map (fun k => k - 48)) h
  rw [codes_back, codes_back] at e
  exact figs_inj (by decide) h1 h2 e
theorem sign_inj {u u' : Int} (ha : u.natAbs = u'.natAbs) (h : signAt u = signAt u') : u = u' := by
  unfold signAt at h
  split at h <;> split at h <;> (first | lia | omega)
theorem row_inj : ∀ neg neg' : Bool, ∀ f, f < 10 → ∀ f', f' < 10 → ((if neg then minusRow else plusRow).toList.getD f 0).toNat = ((if neg' then minusRow else plusRow).toList.getD f' 0).toNat → neg = neg' ∧ f = f' := by decide +kernel
theorem disp_inj {d : Nat} {sg sep lead : Bool} {u u' : Int} (hd : 1 ≤ d) (hu : Keeps d sg u) (hu' : Keeps d sg u') (h : dispOct d sg sep lead u = dispOct d sg sep lead u') : u = u' := by
  unfold dispOct at h
  cases sg with
  | false =>
    rw [if_pos (show false = false from rfl), if_pos (show false = false from rfl)] at h
    have := codes_inj hu.1 hu'.1 h
    have := hu.2 rfl
    have := hu'.2 rfl
    (first | lia | omega)
  | true =>
    rw [if_neg (show ¬ (true = false) by decide), if_neg (show ¬ (true = false) by decide)] at h
    cases sep with
    | true =>
      rw [if_pos (show true = true from rfl), if_pos (show true = true from rfl)] at h
      cases lead with
      | true =>
        rw [if_pos (show true = true from rfl), if_pos (show true = true from rfl)] at h
        injection h with e1 e2
        exact sign_inj (codes_inj hu.1 hu'.1 e2) e1
      | false =>
        rw [if_neg (show ¬ (false = true) by decide), if_neg (show ¬ (false = true) by decide)] at h
        obtain ⟨e1, e2⟩ := List.append_inj h (by rw [codesOf_length, codesOf_length])
        injection e2 with e3
        exact sign_inj (codes_inj hu.1 hu'.1 e1) e3
    | false =>
      rw [if_neg (show ¬ (false = true) by decide), if_neg (show ¬ (false = true) by decide)] at h
      obtain ⟨p, hp⟩ : ∃ p, p = if lead = true then 0 else d - 1 := ⟨_, rfl⟩
      have hpd : p < d := by rw [hp]; split <;> (first | lia | omega)
      rw [← hp] at h
      obtain ⟨f, hf, -, hc⟩ := codes_get (n := u.natAbs) hpd
      obtain ⟨f', hf', -, hc'⟩ := codes_get (n := u'.natAbs) hpd
      rw [hc, hc'] at h
      have n1 : ((48 : Int) + (f : Int) - 48).toNat = f := by (first | lia | omega)
      have n2 : ((48 : Int) + (f' : Int) - 48).toNat = f' := by (first | lia | omega)
      rw [n1, n2, row_eq, row_eq] at h
      have hl : p < (codesOf d u.natAbs).length := by rw [codesOf_length]; exact hpd
      have hl' : p < (codesOf d u'.natAbs).length := by rw [codesOf_length]; exact hpd
      have e1 := congrArg (fun l => l[p]?) h
      simp only [List.getElem?_set_self hl, List.getElem?_set_self hl', Option.some.injEq] at e1
      obtain ⟨e2, e3⟩ := row_inj _ _ f hf f' hf' (by exact_mod_cast e1)
      have e4 := congrArg (fun l => l.set p (48 + (f : Int))) h
      simp only [List.set_set] at e4
      have g1 : (codesOf d u.natAbs).set p (48 + (f : Int)) = codesOf d u.natAbs := by
        rw [← hc, List.getD_eq_getElem?_getD, List.getElem?_eq_getElem hl]
        simp
      have g2 : (codesOf d u'.natAbs).set p (48 + (f : Int)) = codesOf d u'.natAbs := by
        rw [e3, ← hc', List.getD_eq_getElem?_getD, List.getElem?_eq_getElem hl']
        simp
      rw [g1, g2] at e4
      have ea := codes_inj hu.1 hu'.1 e4
      have e5 : (u < 0) ↔ (u' < 0) := by
        constructor
        · intro hn; exact of_decide_eq_true (e2 ▸ decide_eq_true hn)
        · intro hn; exact of_decide_eq_true (e2.symm ▸ decide_eq_true hn)
      by_cases hn : u < 0
      · have := e5.mp hn; (first | lia | omega)
      · have : ¬ u' < 0 := fun q => hn (e5.mpr q)
        (first | lia | omega)
end
section
theorem disp_bytes {d : Nat} {sg sep lead : Bool} {u : Int} : ∀ q ∈ dispOct d sg sep lead u, 0 ≤ q ∧ q < 256 := by
  have hs : 0 ≤ signAt u ∧ signAt u < 256 := by unfold signAt; split <;> decide
  unfold dispOct
  split
  · exact codes_in
  · split
    · split
      · intro q hq
        rcases List.mem_append.mp hq with hq | hq
        · rw [List.mem_singleton.mp hq]; exact hs
        · exact codes_in q hq
      · intro q hq
        rcases List.mem_append.mp hq with hq | hq
        · exact codes_in q hq
        · rw [List.mem_singleton.mp hq]; exact hs
    · exact all_set (u8_in _) codes_in
theorem octs_inj {kd cat us sn : Str} {d size : Nat} {sg sep : Bool} (hK : KindIs kd cat us sn d size sg sep) (h1 : 1 ≤ d) (h2 : d ≤ 18) {u u' : Int} (hu : Keeps d sg u) (hu' : Keeps d sg u')
    (h : byteArr (octs us size d sg sep (sn == Str.ofString "leading") u) = byteArr (octs us size d sg sep (sn == Str.ofString "leading") u')) : u = u' := by
  have e1 : ∀ (size : Nat) (sg sep lead : Bool) (u : Int), octs (Str.ofString "display") size d sg sep lead u = dispOct d sg sep lead u := fun _ _ _ _ _ => if_pos rfl
  have e2 : ∀ (size : Nat) (sg sep lead : Bool) (u : Int), octs (Str.ofString "packed") size d sg sep lead u = packOct size sg u := fun _ _ _ _ _ => (if_neg (by decide)).trans (if_pos rfl)
  have e3 : ∀ (size : Nat) (sg sep lead : Bool) (u : Int), octs (Str.ofString "binary") size d sg sep lead u = binOct size u := fun _ _ _ _ _ => (if_neg (by decide)).trans (if_neg (by decide))
  have e4 : ∀ (d size : Nat) (sg sep lead : Bool) (u : Int), octs (Str.ofString "index") size d sg sep lead u = binOct size u := fun _ _ _ _ _ _ => (if_neg (by decide)).trans (if_neg (by decide))
  have hD : ∀ lead sep, byteArr (dispOct d sg sep lead u) = byteArr (dispOct d sg sep lead u') → u = u' := fun lead sep h => disp_inj h1 hu hu' (byteArr_inj disp_bytes disp_bytes h)
  cases hK
  · rw [e1, e1] at h; exact hD _ _ h
  · rw [e1, e1] at h; exact hD _ _ h
  · rw [e1, e1] at h; exact hD _ _ h
  · rw [e1, e1] at h; exact hD _ _ h
  · rw [e2, e2] at h; exact pack_inj (by (first | lia | omega)) (by (first | lia | omega)) hu hu' (byteArr_inj pack_bytes pack_bytes h)
  · rw [e3, e3] at h; exact bin_inj (binSize h2) hu.1 hu'.1 (byteArr_inj bins_in bins_in h)
  · rw [e4, e4] at h; exact bin_inj (.inr (.inl ⟨by decide, rfl⟩)) hu.1 hu'.1 (byteArr_inj bins_in bins_in h)
end
section
theorem str_ne_is {prog : Program} {w : World} {A : Around} {E : Value → Shared → Prop} {s : Shared} {x y : Str} {t u : Tok} {Q : Value → Shared → Prop} {b : Bool} (hb : (x != y) = b) (h : Q (.bool b) s) : wpAny (model prog w) A (compareOp .NotEq (.str x t) (.str y u)) Q E s := ne_str (by rw [hb]; exact h)
def digitsOf (kd : Str) (R : Int) : Nat := if kd = Str.ofString "index" then 9 else 1 + (R.fmod 18).toNat
def scaleOf (kd : Str) (R : Int) (d : Nat) : Nat := if kd = Str.ofString "index" then 0 else (R.fmod (d + 1)).toNat
theorem digits_in (kd : Str) (R : Int) : 1 ≤ digitsOf kd R ∧ digitsOf kd R ≤ 18 := by
  unfold digitsOf
  have h1 := Int.fmod_nonneg_of_pos R (show (0 : Int) < 18 by decide)
  have h2 := Int.fmod_lt_of_pos R (show (0 : Int) < 18 by decide)
  split <;> (first | lia | omega)
theorem scale_in (kd : Str) (R : Int) (d : Nat) : scaleOf kd R d ≤ d := by
  unfold scaleOf
  have h1 := Int.fmod_nonneg_of_pos R (show (0 : Int) < (d : Int) + 1 by (first | lia | omega))
  have h2 := Int.fmod_lt_of_pos R (show (0 : Int) < (d : Int) + 1 by (first | lia | omega))
  split <;> (first | lia | omega)
theorem digits_is {kd : Str} {R : Int} (h : kd ≠ Str.ofString "index") : (digitsOf kd R : Int) = 1 + R.fmod 18 := by
  unfold digitsOf
  have h1 := Int.fmod_nonneg_of_pos R (show (0 : Int) < 18 by decide)
  rw [if_neg h]; (first | lia | omega)
theorem scale_is {kd : Str} {R : Int} {d : Nat} (h : kd ≠ Str.ofString "index") : (scaleOf kd R d : Int) = R.fmod (d + 1) := by
  unfold scaleOf
  have h1 := Int.fmod_nonneg_of_pos R (show (0 : Int) < (d : Int) + 1 by (first | lia | omega))
  rw [if_neg h]; (first | lia | omega)
def kindsL : List Str := [Str.ofString "trail", Str.ofString "lead", Str.ofString "packed", Str.ofString "binary", Str.ofString "trail apart", Str.ofString "lead apart", Str.ofString "index"]
def mustSign (kd : Str) : Bool := [Str.ofString "lead", Str.ofString "trail apart", Str.ofString "lead apart", Str.ofString "index"].any fun x => x == kd
theorem kind_is : ∀ kd ∈ kindsL, ∀ (sg : Bool) (d : Nat), (mustSign kd = true → sg = true) → (kd = Str.ofString "index" → d = 9) → ∃ (cat us sn : Str) (size : Nat) (sep : Bool), KindIs kd cat us sn d size sg sep := by
  unfold kindsL
  intro kd hk sg d hs hd
  simp only [List.mem_cons, List.not_mem_nil, or_false] at hk
  rcases hk with rfl | rfl | rfl | rfl | rfl | rfl | rfl
  · exact ⟨_, _, _, _, _, .trail d sg⟩
  · rw [hs (by decide)]; exact ⟨_, _, _, _, _, .lead d⟩
  · exact ⟨_, _, _, _, _, .packed d sg⟩
  · exact ⟨_, _, _, _, _, .binary d sg⟩
  · rw [hs (by decide)]; exact ⟨_, _, _, _, _, .ta d⟩
  · rw [hs (by decide)]; exact ⟨_, _, _, _, _, .la d⟩
  · rw [hs (by decide), hd rfl]; exact ⟨_, _, _, _, _, .idx⟩
end
section
section
variable {prog : Program} {w : World} {A : Around} {E : Value → Shared → Prop} {s : Shared} {value slice : PySem.Expr} {h₀ : Heap} {L D : Addr} {news : List (Addr × Obj)} {Q : Value → Shared → Prop} {t u : Tok}
theorem name3 {vs : List Value} {ns : List Int} (_ : IntsAre vs ns) : ∃ v, v = vs := ⟨vs, rfl⟩
theorem pick_kind {vs : List Value} {k : Nat} {i : Int} (N : News h₀ L s.heap news) (hm : (D, W.listOf vs.toArray k) ∈ news) (hw : StrsAre vs kindsL) (h0 : 0 ≤ i) (h1 : i < 7)
    (h : ∀ kd t, kd ∈ kindsL → Q (.str kd t) s) (hs : subscripted slice false (.ref D) (.int i u) = operate [.ref D, .int i u] (getItem (.ref D) (.int i u))) : wpAny (model prog w) A (subscriptTail value slice (.ref D) (.int i u)) Q E s := by
  refine KTb.item_list (ws := kindsL) ⟨_, (N _ hm).1, rfl, _, rfl⟩ hw h0 h1 (by (first | lia | omega)) (fun t' hlt => h _ _ ?_) hs
  rw [List.getD_eq_getElem?_getD, List.getElem?_eq_getElem hlt]
  exact List.getElem_mem _
theorem pow_ten {d : Nat} (h : d ≤ 20) (k : ∀ tk, Q (.int (10 ^ d) tk) { s with toks := s.toks + 1 }) : wpAny (model prog w) A (binaryOp .Pow (.int 10 t) (.int (d : Nat) u)) Q E s :=
  pow_int_small (by (first | lia | omega)) (by (first | lia | omega)) (by decide) (k _)
theorem pow_20 (k : ∀ tk, Q (.int (10 ^ 20) tk) { s with toks := s.toks + 1 }) : wpAny (model prog w) A (binaryOp .Pow (.int 10 t) (.int 20 u)) Q E s :=
  pow_int_small (by decide) (by decide) (by decide) (k _)
theorem mod_ten {d : Nat} {a : Int} (k : ∀ tk, Q (.int (a.fmod (10 ^ d)) tk) { s with toks := s.toks + 1 }) : wpAny (model prog w) A (binaryOp .Mod (.int a t) (.int (10 ^ d) u)) Q E s :=
  mod_int' (Int.ne_of_gt (Int.pow_pos (by decide))) (k _)
end
theorem known5 {m : Str → Option Value} {a b c d e : Str} {u1 u2 u3 u4 u5 : Option Value} (h1 : m a = u1) (h2 : m b = u2) (h3 : m c = u3) (h4 : m d = u4) (h5 : m e = u5) :
    m = fun y => if y = a then u1 else if y = b then u2 else if y = c then u3 else if y = d then u4 else if y = e then u5 else m y := by
  funext y
  by_cases e1 : y = a
  · rw [if_pos e1, e1, h1]
  rw [if_neg e1]
  by_cases e2 : y = b
  · rw [if_pos e2, e2, h2]
  rw [if_neg e2]
  by_cases e3 : y = c
  · rw [if_pos e3, e3, h3]
  rw [if_neg e3]
  by_cases e4 : y = d
  · rw [if_pos e4, e4, h4]
  rw [if_neg e4]
  by_cases e5 : y = e
  · rw [if_pos e5, e5, h5]
  rw [if_neg e5]
def seenObj (b : Array UInt8) (u : Int) (t1 t2 : Tok) : Obj := { cls := .type "tuple", data := .seq #[.bytes b t1, .int u t2] }
/-- the list of what was seen: pairs of octets and a number -/
def SeenAre (f : Int → Array UInt8) (P : Int → Prop) (ts : List Value) (tos : List (Addr × Obj)) : Prop :=
  ∀ v ∈ ts, ∃ (T : Addr) (u : Int) (t1 t2 : Tok), v = .ref T ∧ P u ∧ (T, seenObj (f u) u t1 t2) ∈ tos
inductive SeenJ (kd : Str) (tkd td : Tok) (D : Nat) (sg : Bool) (x SL aL aO : Addr) (fixed : List (Addr × Obj)) (f : Int → Array UInt8) (P : Int → Prop) (i : Nat) (m : Str → Option Value) (nx : List (Addr × Obj)) : Prop
  | mk (u : Str → Option Value) (ts : List Value) (k : Nat) (tos : List (Addr × Obj)) (oO oL : Obj) (v v' : Option Value) : (m = (fun y => if y = Str.ofString "shape" then some (.ref x) else if y = Str.ofString "digits" then some (.int (D : Nat) td) else if y = Str.ofString "is_signed" then some (.bool sg) else if y = Str.ofString "kind" then some (.str kd tkd) else if y = Str.ofString "seen" then some (.ref SL) else u y)) → (nx = (SL, W.listOf ts.toArray k) :: (aL, oL) :: (aO, oO) :: (tos ++ fixed)) → (oO.data = .cell v) → (oL.data = .cell v') → (SeenAre f P ts tos) → (ts.length = i) → (OwnOff tos [SL, aL, aO]) →
    SeenJ kd tkd td D sg x SL aL aO fixed f P i m nx
theorem seen_none {f : Int → Array UInt8} {P : Int → Prop} : SeenAre f P [] [] := fun _ h => nomatch h
theorem seen_off {SL aL aO : Addr} {k : Nat} {ts : List Value} {oL oO : Obj} {tos fixed own : List (Addr × Obj)} (h1 : OwnOff tos [SL, aL, aO]) (h2 : OwnOff fixed [SL, aL, aO]) (hoff : OwnOff own (((SL, W.listOf ts.toArray k) :: (aL, oL) :: (aO, oO) :: (tos ++ fixed)).map (·.1))) : OwnOff (tos ++ (fixed ++ own)) [SL, aL, aO] := by
  intro p hp b hb
  rcases List.mem_append.mp hp with hp | hp
  · exact h1 p hp b hb
  rcases List.mem_append.mp hp with hp | hp
  · exact h2 p hp b hb
  refine hoff p hp b ?_
  rcases List.mem_cons.mp hb with rfl | hb
  · exact List.Mem.head _
  rcases List.mem_cons.mp hb with rfl | hb
  · exact List.Mem.tail _ (List.Mem.head _)
  · rw [List.mem_singleton.mp hb]; exact List.Mem.tail _ (List.Mem.tail _ (List.Mem.head _))
theorem seen_step {g h' : Heap} {L SL aL aO T x NL : Addr} {oO' oL' oO oL ol : Obj} {all tos fixed own : List (Addr × Obj)} {ts : List Value} {kd : Str} {tkd td : Tok} {D : Nat} {sg : Bool} {f : Int → Array UInt8} {P : Int → Prop} {i k : Nat} {u : Int} {t1 t2 : Tok} {m' : Str → Option Value} {h5 : Heap} {g5 : Array GenState} {d5 : Drawn} {t5 : Nat} {o5 : OsState} {tk : Nat} {v v' : Option Value}
    (F : Fr g L h' m') (N : News g L h' all) (hS : SeenAre f P ts tos) (hti : ts.length = i) (hP : P u) (hfix : (NL, ol) ∈ fixed)
    (m1 : (T, seenObj (f u) u t1 t2) ∈ all) (m2 : (SL, W.listOf (ts.toArray.push (Value.ref T)) k) ∈ all) (m3 : (aL, oL) ∈ all) (m4 : (aO, oO) ∈ all) (m5 : ∀ p ∈ tos ++ (fixed ++ own), p ∈ all) (c1 : oL.data = .cell v') (c2 : oO.data = .cell v)
    (q1 : @LT.lt Nat _ SL T) (q2 : @LT.lt Nat _ aL T) (q3 : @LT.lt Nat _ aO T) (q4 : AllLt T (tos ++ (fixed ++ own))) (h1 : OwnOff tos [SL, aL, aO])
    (hoff : OwnOff own (((SL, W.listOf ts.toArray 0) :: (aL, oL') :: (aO, oO') :: (tos ++ fixed)).map (·.1)))
    (e1 : m' (Str.ofString "shape") = some (.ref x)) (e2 : m' (Str.ofString "digits") = some (.int (D : Nat) td)) (e3 : m' (Str.ofString "is_signed") = some (.bool sg)) (e4 : m' (Str.ofString "kind") = some (.str kd tkd)) (e5 : m' (Str.ofString "seen") = some (.ref SL)) :
    InvEndG g L (fun m' nx => (NL, ol) ∈ nx ∧ SeenJ kd tkd td D sg x SL aL aO fixed f P (i + 1) m' nx) own ⟨h5, g5, d5, t5, o5⟩ ⟨h', g5, d5, tk, o5⟩ := by
  have e : (ts ++ [Value.ref T]).toArray = ts.toArray.push (Value.ref T) := by simp
  refine InvEndG.intro (nx := (SL, W.listOf (ts ++ [Value.ref T]).toArray k) :: (aL, oL) :: (aO, oO) :: (((T, seenObj (f u) u t1 t2) :: tos) ++ fixed)) F N
    ⟨List.mem_cons_of_mem _ (List.mem_cons_of_mem _ (List.mem_cons_of_mem _ (List.mem_append.mpr (.inr hfix)))), m', _, _, _, _, _, _, _, known5 e1 e2 e3 e4 e5, rfl, c2, c1, ?_, by rw [List.length_append, hti]; rfl, ?_⟩ ?_ ?_ ?_
  · intro y hy
    rcases List.mem_append.mp hy with hy | hy
    · obtain ⟨T0, u0, a, b, q1, q2, q3⟩ := hS y hy
      exact ⟨T0, u0, a, b, q1, q2, List.mem_cons_of_mem _ q3⟩
    · exact ⟨T, u, t1, t2, List.mem_singleton.mp hy, hP, List.Mem.head _⟩
  · intro p hp b hb
    rcases List.mem_cons.mp hp with rfl | hp
    · rcases List.mem_cons.mp hb with rfl | hb
      · exact Nat.ne_of_gt q1
      rcases List.mem_cons.mp hb with rfl | hb
      · exact Nat.ne_of_gt q2
      · rw [List.mem_singleton.mp hb]; exact Nat.ne_of_gt q3
    · exact h1 p hp b hb
  · intro p hp b hb
    obtain ⟨q, hq, rfl⟩ := List.mem_map.mp hb
    rcases List.mem_cons.mp hq with rfl | hq
    · exact hoff p hp _ (List.Mem.head _)
    rcases List.mem_cons.mp hq with rfl | hq
    · exact hoff p hp _ (List.Mem.tail _ (List.Mem.head _))
    rcases List.mem_cons.mp hq with rfl | hq
    · exact hoff p hp _ (List.Mem.tail _ (List.Mem.tail _ (List.Mem.head _)))
    rcases List.mem_cons.mp hq with rfl | hq
    · exact Nat.ne_of_lt (allLt_mem q4 p (List.mem_append.mpr (.inr (List.mem_append.mpr (.inr hp)))))
    · exact hoff p hp _ (List.mem_cons_of_mem _ (List.mem_cons_of_mem _ (List.mem_cons_of_mem _ (List.mem_map.mpr ⟨q, hq, rfl⟩))))
  · intro p hp
    rcases List.mem_cons.mp hp with rfl | hp
    · rw [e]; exact m2
    rcases List.mem_cons.mp hp with rfl | hp
    · exact m3
    rcases List.mem_cons.mp hp with rfl | hp
    · exact m4
    rcases List.mem_cons.mp hp with rfl | hp
    · exact m1
    refine m5 _ ?_
    rcases List.mem_append.mp hp with hp | hp
    · exact List.mem_append.mpr (.inl hp)
    · exact List.mem_append.mpr (.inr (List.mem_append.mpr (.inl hp)))
  · intro p hp
    exact m5 _ (List.mem_append.mpr (.inr (List.mem_append.mpr (.inr hp))))
theorem fixed_off {SL aL aO NL x dx D0 : Addr} {ol ol0 oL oO o1 o2 : Obj} {own : List (Addr × Obj)} (n1 : @LT.lt Nat _ SL NL) (n2 : @LT.lt Nat _ aL NL) (n3 : @LT.lt Nat _ aO NL) (s1 : @LT.lt Nat _ x SL) (s2 : @LT.lt Nat _ dx SL) (s3 : @LT.lt Nat _ D0 SL) (s4 : AllLt SL own)
    (x1 : @Ne Nat x aL) (x2 : @Ne Nat x aO) (x3 : @Ne Nat dx aL) (x4 : @Ne Nat dx aO) (d1 : @LT.lt Nat _ aL D0) (d2 : @LT.lt Nat _ aO D0) (hoff : OwnOff own (((D0, ol0) :: (aL, oL) :: (aO, oO) :: []).map (·.1))) :
    OwnOff ((NL, ol) :: (x, o1) :: (dx, o2) :: (D0, ol0) :: own) [SL, aL, aO] := by
  intro p hp b hb
  rcases List.mem_cons.mp hb with rfl | hb
  · rcases List.mem_cons.mp hp with rfl | hp
    · exact Nat.ne_of_gt n1
    rcases List.mem_cons.mp hp with rfl | hp
    · exact Nat.ne_of_lt s1
    rcases List.mem_cons.mp hp with rfl | hp
    · exact Nat.ne_of_lt s2
    rcases List.mem_cons.mp hp with rfl | hp
    · exact Nat.ne_of_lt s3
    · exact Nat.ne_of_lt (allLt_mem s4 p hp)
  rcases List.mem_cons.mp hb with rfl | hb
  · rcases List.mem_cons.mp hp with rfl | hp
    · exact Nat.ne_of_gt n2
    rcases List.mem_cons.mp hp with rfl | hp
    · exact x1
    rcases List.mem_cons.mp hp with rfl | hp
    · exact x3
    rcases List.mem_cons.mp hp with rfl | hp
    · exact Nat.ne_of_gt d1
    · exact hoff p hp _ (List.Mem.tail _ (List.Mem.head _))
  rw [List.mem_singleton.mp hb]
  rcases List.mem_cons.mp hp with rfl | hp
  · exact Nat.ne_of_gt n3
  rcases List.mem_cons.mp hp with rfl | hp
  · exact x2
  rcases List.mem_cons.mp hp with rfl | hp
  · exact x4
  rcases List.mem_cons.mp hp with rfl | hp
  · exact Nat.ne_of_gt d2
  · exact hoff p hp _ (List.Mem.tail _ (List.Mem.tail _ (List.Mem.head _)))

section
variable {prog : Program} {w : World} {A : Around} {E : Value → Shared → Prop} {s : Shared} {env : Env} {h₀ : Heap} {xn : Str} {body : List Stmt} {Q : Flow → Shared → Prop}
/-- the law's inner loop -/
theorem seen_iter {SL aL aO NL x dx D0 : Addr} {ol0 oL oO o1 o2 : Obj} {own all : List (Addr × Obj)} {vs : List Value} {ns : List Int} {kd : Str} {tkd td : Tok} {D : Nat} {sg : Bool} {m₀ : Str → Option Value} {c c' : Option Value} (f : Int → Array UInt8) (P : Int → Prop)
    (hh : A.handled = none) (hI : IntsAre vs ns) (F : Fr h₀ env.locals s.heap m₀) (N : News h₀ env.locals s.heap all)
    (e1 : m₀ (Str.ofString "shape") = some (.ref x)) (e2 : m₀ (Str.ofString "digits") = some (.int (D : Nat) td)) (e3 : m₀ (Str.ofString "is_signed") = some (.bool sg)) (e4 : m₀ (Str.ofString "kind") = some (.str kd tkd)) (e5 : m₀ (Str.ofString "seen") = some (.ref SL))
    (hfix : OwnOff ((NL, W.listOf vs.toArray 0) :: (x, o1) :: (dx, o2) :: (D0, ol0) :: own) [SL, aL, aO])
    (hall : ∀ p ∈ (SL, W.listOf ([] : List Value).toArray 0) :: (aL, oL) :: (aO, oO) :: (NL, W.listOf vs.toArray 0) :: (x, o1) :: (dx, o2) :: (D0, ol0) :: own, p ∈ all)
    (c1 : oL.data = .cell c) (c2 : oO.data = .cell c')
    (turn : ∀ (i : Nat) (v : Int) (t : Tok) (u : Str → Option Value) (ts : List Value) (k : Nat) (tos : List (Addr × Obj)) (oO' oL' : Obj) (c c' : Option Value) (h : Heap) (tk : Nat) (own2 rest : List (Addr × Obj)), vs[i]? = some (.int v t) → rest = tos ++ ((((NL, W.listOf vs.toArray 0) :: (x, o1) :: (dx, o2) :: (D0, ol0) :: own)) ++ own2) → SeenAre f P ts tos → ts.length = i → i < ns.length → oO'.data = .cell c → oL'.data = .cell c' → OwnOff tos [SL, aL, aO] → OwnOff rest [SL, aL, aO] → (∀ p ∈ tos, p ∈ rest) →
      OwnOff own2 (((SL, W.listOf ts.toArray 0) :: (aL, oL') :: (aO, oO') :: (tos ++ ((NL, W.listOf vs.toArray 0) :: (x, o1) :: (dx, o2) :: (D0, ol0) :: own))).map (·.1)) →
      Fr h₀ env.locals h (fun y => if y = xn then some (.int v t) else if y = Str.ofString "shape" then some (.ref x) else if y = Str.ofString "digits" then some (.int (D : Nat) td) else if y = Str.ofString "is_signed" then some (.bool sg) else if y = Str.ofString "kind" then some (.str kd tkd) else if y = Str.ofString "seen" then some (.ref SL) else u y) →
      News h₀ env.locals h ((SL, W.listOf ts.toArray k) :: (aL, oL') :: (aO, oO') :: (x, o1) :: (dx, o2) :: rest) →
      wpAny (model prog w) A (execs body env) (InvPostG h₀ env.locals (fun m' nx => (NL, W.listOf vs.toArray 0) ∈ nx ∧ SeenJ kd tkd td D sg x SL aL aO ((NL, W.listOf vs.toArray 0) :: (x, o1) :: (dx, o2) :: (D0, ol0) :: own) f P (i + 1) m' nx) own2 { s with heap := h, toks := tk } Q) E { s with heap := h, toks := tk })
    (done : ∀ m₁ oO' oL' c c' h tk, oO'.data = .cell c → oL'.data = .cell c' → Fr h₀ env.locals h m₁ → News h₀ env.locals h ((D0, ol0) :: (aL, oL') :: (aO, oO') :: own) → Q .next { s with heap := h, toks := tk }) :
    wpAny (model prog w) A (pyIter (.ref NL)) (fun it s₂ => LoopAtV prog w A h₀ env xn body Q E it s₂) E s := by
  refine kdl_iter (vs := vs) (nn := 0) (SeenJ kd tkd td D sg x SL aL aO ((NL, W.listOf vs.toArray 0) :: (x, o1) :: (dx, o2) :: (D0, ol0) :: own) f P) hh (List.mem_cons_of_mem _ (List.mem_cons_of_mem _ (List.mem_cons_of_mem _ (List.Mem.head _)))) F (cb_drop N hall)
    ⟨_, [], 0, [], oO, oL, _, _, known5 e1 e2 e3 e4 e5, rfl, c2, c1, seen_none, rfl, fun _ h => nomatch h⟩ ?_ ?_
  · intro i v m₁ news₁ h tk own2 hv hoff hl hJ F₁ N₁
    obtain ⟨u, ts, k, tos, oO', oL', c3, c4, rfl, rfl, hO', hL', hS, hti, ho⟩ := hJ
    obtain ⟨z, t, rfl, hz⟩ := hI.at i v hv
    refine turn i z t u ts k tos oO' oL' c3 c4 h tk own2 _ hv rfl hS hti (List.getElem?_eq_some_iff.mp hz).1 hO' hL' ho (seen_off (ts := ts) (k := 0) ho hfix hoff) (fun p hp => List.mem_append.mpr (.inl hp)) hoff F₁ ?_
    refine cb_drop N₁ fun p hp => ?_
    rcases List.mem_cons.mp hp with rfl | hp
    · exact List.Mem.head _
    rcases List.mem_cons.mp hp with rfl | hp
    · exact List.Mem.tail _ (List.Mem.head _)
    rcases List.mem_cons.mp hp with rfl | hp
    · exact List.Mem.tail _ (List.Mem.tail _ (List.Mem.head _))
    have key : ∀ p ∈ tos ++ ((((NL, W.listOf vs.toArray 0) :: (x, o1) :: (dx, o2) :: (D0, ol0) :: own)) ++ own2), p ∈ ((SL, W.listOf ts.toArray k) :: (aL, oL') :: (aO, oO') :: (tos ++ ((NL, W.listOf vs.toArray 0) :: (x, o1) :: (dx, o2) :: (D0, ol0) :: own))) ++ own2 := fun p hp => by
      rcases List.mem_append.mp hp with hp | hp
      · exact List.mem_append.mpr (.inl (List.mem_cons_of_mem _ (List.mem_cons_of_mem _ (List.mem_cons_of_mem _ (List.mem_append.mpr (.inl hp))))))
      rcases List.mem_append.mp hp with hp | hp
      · exact List.mem_append.mpr (.inl (List.mem_cons_of_mem _ (List.mem_cons_of_mem _ (List.mem_cons_of_mem _ (List.mem_append.mpr (.inr hp))))))
      · exact List.mem_append.mpr (.inr hp)
    rcases List.mem_cons.mp hp with rfl | hp
    · exact key _ (List.mem_append.mpr (.inr (List.mem_append.mpr (.inl (List.Mem.tail _ (List.Mem.head _))))))
    rcases List.mem_cons.mp hp with rfl | hp
    · exact key _ (List.mem_append.mpr (.inr (List.mem_append.mpr (.inl (List.Mem.tail _ (List.Mem.tail _ (List.Mem.head _)))))))
    · exact key _ hp
  · intro m₁ news₁ h tk hJ F₁ N₁
    obtain ⟨u, ts, k, tos, oO', oL', c3, c4, rfl, rfl, hO', hL', hS, hti, ho⟩ := hJ
    refine done _ oO' oL' c3 c4 h tk hO' hL' F₁ (cb_drop N₁ fun p hp => ?_)
    have key : ∀ p ∈ (D0, ol0) :: own, p ∈ (SL, W.listOf ts.toArray k) :: (aL, oL') :: (aO, oO') :: (tos ++ ((NL, W.listOf vs.toArray 0) :: (x, o1) :: (dx, o2) :: (D0, ol0) :: own)) := fun p hp =>
      List.mem_cons_of_mem _ (List.mem_cons_of_mem _ (List.mem_cons_of_mem _ (List.mem_append.mpr (.inr (List.mem_cons_of_mem _ (List.mem_cons_of_mem _ (List.mem_cons_of_mem _ hp)))))))
    rcases List.mem_cons.mp hp with rfl | hp
    · exact key _ (List.Mem.head _)
    rcases List.mem_cons.mp hp with rfl | hp
    · exact List.Mem.tail _ (List.Mem.head _)
    rcases List.mem_cons.mp hp with rfl | hp
    · exact List.Mem.tail _ (List.Mem.tail _ (List.Mem.head _))
    · exact key _ (List.mem_cons_of_mem _ hp)
end
theorem cell_step {g h' : Heap} {L D0 aL aO : Addr} {ol0 oL oO oL' oO' : Obj} {own : List (Addr × Obj)} {m' : Str → Option Value} {h5 : Heap} {g5 : Array GenState} {d5 : Drawn} {t5 : Nat} {o5 : OsState} {tk : Nat} {c c' : Option Value} (F : Fr g L h' m') (N : News g L h' ((D0, ol0) :: (aL, oL) :: (aO, oO) :: own)) (c1 : oL.data = .cell c) (c2 : oO.data = .cell c')
    (hoff : OwnOff own (((D0, ol0) :: (aL, oL') :: (aO, oO') :: []).map (·.1))) :
    InvEndG g L (fun _ nx => (D0, ol0) ∈ nx ∧ CellJ aO aL D0 ol0 nx) own ⟨h5, g5, d5, t5, o5⟩ ⟨h', g5, d5, tk, o5⟩ :=
  InvEndG.intro (nx := [(D0, ol0), (aL, oL), (aO, oO)]) F N ⟨List.Mem.head _, oO, oL, c', c, rfl, c2, c1⟩ hoff (fun p hp => by
    rcases List.mem_cons.mp hp with rfl | hp
    · exact List.Mem.head _
    rcases List.mem_cons.mp hp with rfl | hp
    · exact List.Mem.tail _ (List.Mem.head _)
    · rw [List.mem_singleton.mp hp]; exact List.Mem.tail _ (List.Mem.tail _ (List.Mem.head _)))
    fun p hp => List.mem_cons_of_mem _ (List.mem_cons_of_mem _ (List.mem_cons_of_mem _ hp))
theorem seen_test {b1 b2 : Array UInt8} {u1 u2 : Int} (h : b1 = b2 ↔ u1 = u2) : ((b1.toList == b2.toList) != (u1 == u2)) = false := by
  by_cases e : u1 = u2
  · rw [h.mpr e, e]; simp
  · have e2 : b1.toList ≠ b2.toList := fun q => e (h.mp (Array.toList_inj.mp q))
    rw [beq_eq_false_iff_ne.mpr e2, beq_eq_false_iff_ne.mpr e]; rfl
theorem int_same {prog : Program} {w : World} {A : Around} {E : Value → Shared → Prop} {s : Shared} {a : Int} {t u : Tok} {Q : Value → Shared → Prop} (k : Q (.bool false) s) : wpAny (model prog w) A (compareOp .NotEq (.int a t) (.int a u)) Q E s :=
  PyProof.Rows.ne_int (by rw [bne_self_eq_false]; exact k)
theorem seen_len (a b c d e f : Int) (g : Int → Int) : ([a, b, c, d, e, f] ++ [a, b, c, d, e, f].map g).length = 12 := rfl
theorem cb_tail {h₀ h : Heap} {L : Addr} {a : Addr × Obj} {l : List (Addr × Obj)} (N : News h₀ L h (a :: l)) : News h₀ L h l := fun p hp => N p (List.mem_cons_of_mem _ hp)
theorem none_filter (n : Nat) : (List.replicate n (none : Option Int)).filterMap id = [] := by
  induction n with
  | zero => rfl
  | succ n ih => rw [List.replicate_succ, List.filterMap_cons]; exact ih
theorem seen_all {SL aL aO NL x dx D0 q1 q2 q3 q4 : Addr × Obj} {own : List (Addr × Obj)} : ∀ p ∈ SL :: aL :: aO :: NL :: x :: dx :: D0 :: own, p ∈ NL :: q1 :: SL :: q2 :: q3 :: x :: dx :: q4 :: D0 :: aL :: aO :: own := by
  intro p hp
  simp only [List.mem_cons] at hp ⊢
  rcases hp with h | h | h | h | h | h | h | h
  · exact .inr (.inr (.inl h))
  · exact .inr (.inr (.inr (.inr (.inr (.inr (.inr (.inr (.inr (.inl h)))))))))
  · exact .inr (.inr (.inr (.inr (.inr (.inr (.inr (.inr (.inr (.inr (.inl h))))))))))
  · exact .inl h
  · exact .inr (.inr (.inr (.inr (.inr (.inl h)))))
  · exact .inr (.inr (.inr (.inr (.inr (.inr (.inl h))))))
  · exact .inr (.inr (.inr (.inr (.inr (.inr (.inr (.inr (.inl h))))))))
  · exact .inr (.inr (.inr (.inr (.inr (.inr (.inr (.inr (.inr (.inr (.inr h))))))))))
theorem ShapeIs.elim {es : List DictEntry} {cat us sgn : Str} {size d : Nat} {sg sep : Bool} {P : Prop} (h : ShapeIs es cat us size d sg sep sgn)
    (k : ∀ c1 c2 c3 c4 c6, getL "category" es = some (some (.str cat c1)) → getL "size" es = some (some (.int size c2)) → getL "usage" es = some (some (.str us c3)) → getL "sign" es = some (some (.str sgn c4)) → getL "is_separate" es = some (some (.bool sep)) → getL "digits" es = some (some (.int d c6)) → getL "is_signed" es = some (some (.bool sg)) → P) : P := by
  obtain ⟨⟨c1, f1⟩, ⟨c2, f2⟩, ⟨c3, f3⟩, ⟨c4, f4⟩, f5, ⟨c6, f6⟩, f7⟩ := h
  exact k c1 c2 c3 c4 c6 f1 f2 f3 f4 f5 f6 f7
end
theorem wd73 : True := by
  k_with "mine call ref" => ((k_here; (with_reducible show wpAny _ _ (call (Value.ref 222) _) _ _ _); k_dflt (refine' Spec.use0 (octets_for_spec _ _ _ _ _ ?c0q909 ?c1q909 ?c2q909 ?c3q909 _ _) ?k1 ?k2 ?k3 ?k4 ?k5 ?kK ?ks ?kd ?ku ?_; (case c0q909 => assumption); (case c1q909 => assumption); (case c2q909 => assumption); (case c3q909 => assumption); k_extra "my sides"; intro t' h' tk' F' N'; (try k_sweep); (try dsimp only))))
  k_with "mine call ref" => ((k_here; (with_reducible show wpAny _ _ (call (Value.ref 535) _) _ _ _); k_dflt (refine' Spec.use0 (law_laid_all _ _ _ _ _ ?c0q910 ?c1q910 ?c2q910 _) ?k1 ?k2 ?k3 ?k4 ?k5 ?kK ?ks ?kd ?ku ?_; (case c0q910 => assumption); (case c1q910 => assumption); (case c2q910 => assumption); k_extra "my sides"; intro t' h' tk' F' N'; (try k_sweep); (try dsimp only))))
  k_with "mine call ref" => ((k_here; (with_reducible show wpAny _ _ (call (Value.ref 262) _) _ _ _); k_dflt (refine' Spec.use0 (units_in_spec _ _ _ _ _ ?c0q911 ?c1q911 ?c2q911 ?c3q911 ?c4q911 _ ?c5q911 _) ?k1 ?k2 ?k3 ?k4 ?k5 ?kK ?ks ?kd ?ku ?_; (case c0q911 => assumption); (case c1q911 => assumption); (case c2q911 => assumption); (case c3q911 => assumption); (case c4q911 => assumption); (case c5q911 => assumption); k_extra "my sides"; intro t' h' tk' F' N'; (try k_sweep); (try dsimp only))))
  k_with "mine call ref" => ((k_here; (with_reducible show wpAny _ _ (call (Value.ref 530) _) _ _ _); k_dflt (refine' Spec.use0 (law_kept_spec _ _ _ _ _ _ ?c0q912) ?k1 ?k2 ?k3 ?k4 ?k5 ?kK ?ks ?kd ?ku ?_; (case c0q912 => (first | lia | omega)); k_extra "my sides"; intro t' h' tk' F' N'; (try k_sweep); (try dsimp only))))
  k_with "mine compareOp NotEq ref ref" => ((k_here; (with_reducible show wpAny _ _ (compareOp CmpOp.NotEq (Value.ref _) (Value.ref _)) _ _ _); first | k_dflt (refine' ne_nil_nil ?Nq913 ?aq913 ?bq913 ?uq913 ?_; (case Nq913 => k_asm); (case aq913 => k_mem); (case bq913 => k_mem); (case uq913 => k_extra "my units")) | k_dflt (refine' ne_some_nil ?Nq913 ?aq913 ?bq913 ?vq913 ?uq913 ?_; (case Nq913 => k_asm); (case aq913 => k_mem); (case bq913 => k_mem); (case vq913 => simp); (case uq913 => k_extra "my units"))))
  trivial
section
theorem wd74 : True := by
  k_with "mine eval IfExp" => ((k_here; (rename HeldMark => hHM); refine Held.mk ?_))
  k_with "mine compareOp NotEq str str" => ((k_here; k_dflt (refine' str_ne_is ?aq915 ?_; (case aq915 => assumption))))
  k_with "mine compareOp NotEq int int" => ((k_here; (with_reducible refine' int_same ?_)))
  k_with "mine eval ListComp" => ((k_here; (with_reducible show wpAny _ _ (eval (PySem.Expr.ListComp _ [⟨PySem.Expr.Tuple _ _ _, _, _, _⟩] _ _) _) _ _ _); k_dflt (refine ListComp_pairs (F₀ := by k_asm) (by with_unfolding_all rfl) (by decide) (by rfl) (by decide) (by rfl) (by rfl) (by decide) ?_ (fun _ => rfl))))
  k_with "mine eval BoolOp" => ((k_here; (rename HeldMark => hHM); refine Held.mk ?_))
  k_with "mine subscriptTail Name Call ref int" => ((k_here; k_dflt (refine' pick_kind ?Nq919 ?mq919 ?wq919 ?aq919 ?bq919 ?_ ?hsq919; (case Nq919 => k_asm); (case mq919 => k_mem); (case wq919 => repeat constructor); (case aq919 => kxi_fact); (case bq919 => kxi_fact); (case hsq919 => with_unfolding_all rfl)); intro kd tkd hkd))
  k_with "mine binaryOp Pow int int" => ((k_here; first | ((with_reducible refine' pow_ten ?aq920 ?_); (case aq920 => exact Nat.le_trans (by assumption) (by decide))) | (with_reducible refine' pow_20 ?_); intro _))
  k_with "mine binaryOp Mod int int" => ((k_here; (with_reducible refine' mod_ten ?_); intro _))
  k_with "mine exec For" => ((k_here; refine Held.mk ?_))
  k_with "mine call ref" => ((k_here; (with_reducible show wpAny _ _ (call (Value.ref 509) _) _ _ _); refine Held.mk ?_))
  k_with "mine call ref" => ((k_here; (with_reducible show wpAny _ _ (call (Value.ref 516) _) _ _ _); refine Held.mk ?_))
  k_with "mine compareOp NotEq bytes bytes" => ((k_here; k_dflt (refine' bytes_same ?aq925 ?_; (case aq925 => first | rfl | assumption))))
  trivial
 local macro_rules | `(tactic| k_qdec) => `(tactic| decide +kernel)
set_option maxHeartbeats 0 in
theorem law_try : PySem.Challenge.rw_pc0142_01.Holds := by
  refine hd ?_
  k_go0
  rename IntsAre _ _ => hI
  rename Heap.IsList _ _ _ => hL
  show wpAny (model PySem.Challenge.pw_pc0142_01 _) _ _ _ _ _
  k_fold
  k_drop
  walk1
  rename News _ _ _ _ => hN
  rename Fr _ _ _ _ => hF
  refine For_invTF hF ?_ (fun _ => rfl)
  walk1
  walk1
  walk1
  k_dflt (refine' Spec.use (law_table_spec _) ?k1 ?k2 ?k3 ?k4 ?k5 ?kK ?ks ?kd ?ku ?_)
  k_extra "my sides"
  intro v' new' h' tk' F1 N1 hne hP'
  obtain ⟨D, nD, ts, rfl, hDm, hR⟩ := hP'
  refine kdt_iter (vs := ts) (nn := nD) (fun _ => TabJ _ _ _ new') rfl (List.mem_cons_of_mem _ (List.mem_cons_of_mem _ hDm)) F1 (news := _ :: _ :: new') (fun p hp => N1 p (by
    rcases List.mem_cons.mp hp with rfl | hp
    · exact List.mem_append.mpr (.inr (List.Mem.head _))
    rcases List.mem_cons.mp hp with rfl | hp
    · exact List.mem_append.mpr (.inr (List.Mem.tail _ (List.Mem.head _)))
    · exact List.mem_append.mpr (.inl hp))) ⟨_, _, _, _, _, known1 rfl, rfl, by assumption, by assumption⟩ ?_ ?_
  · intro i v m₁ news₁ s₁ own hv hoff hl hJ F₁ N₁
    obtain ⟨u, oO, oL, v1, v2, rfl, rfl, hO, hLc⟩ := hJ
    obtain ⟨r, T, t1, t2, t3, t4, hrl, rfl, hTm⟩ := hR.at hv
    obtain ⟨cat, us, sn, size, sep, hK, hd1, hd2, hoct⟩ := table_ok r hrl
    have hroff := tab_rest hne hoff
    have N₂ := tab_news N₁ hTm
    have hTne := tab_ne hne hTm
    obtain ⟨rest, hr⟩ : ∃ q, q = new' ++ own := ⟨_, rfl⟩
    rw [← hr] at hroff N₂
    clear N₁
    obtain ⟨h9, g9, d9, k9, o9⟩ := s₁
    unfold rowObj at N₂
    (try dsimp only at F₁ N₂)
    show wpAny (model PySem.Challenge.pw_pc0142_01 _) _ _ _ _ _
    k_fold
    have hMk := kstMark
    have hok := hK.ok hd2
    k_extra "my steps"
    unfold Held
    k_dflt (refine' Spec.use8 (law_shape_row _ _ _ _ hK hd1 hd2) ?k1 ?k2 ?k3 ?k4 ?k5 ?kK ?ks ?kd ?ku ?_)
    k_extra "my sides"
    intro x dx es n h' tk' F2 N3 hne2 hShp hno hltx
    refine hShp.elim fun c1 c2 c3 c4 c6 f1 f2 f3 f4 f5 f6 f7 => ?_
    (try simp only [List.cons_append, List.nil_append] at N3)
    show wpAny (model PySem.Challenge.pw_pc0142_01 _) _ _ _ _ _
    (try k_fold)
    k_extra "my steps"
    rename Fr _ _ _ _ => hF9
    rename News _ _ _ _ => hN9
    subst hr
    exact tab_step hF9 hN9 rfl (by k_mem) (by k_mem) (by kcj_all) hoff hDm hLc (by assumption)
  · clear hF hN F1 N1 hne
    intro m₁ news₁ h tk hJ F₁ N₁
    obtain ⟨u, oO, oL, v1, v2, rfl, rfl, hO, hLc⟩ := hJ
    replace N₁ : News _ _ h [(_, oL), (_, oO)] := fun p hp => N₁ p (by
      rcases List.mem_cons.mp hp with rfl | hp
      · exact List.Mem.head _
      · rw [List.mem_singleton.mp hp]; exact List.Mem.tail _ (List.Mem.head _))
    (try dsimp only)
    show wpAny (model PySem.Challenge.pw_pc0142_01 _) _ _ _ _ _
    (try k_fold)
    walk1
    refine For_invVF F₁ (by rfl) (by rfl) ?_ (fun _ => rfl)
    k_extra "my steps"
    rename IntsAre _ _ => hI9
    rename Fr _ _ _ _ => hF9
    rename News _ _ _ _ => hN9
    obtain ⟨-, -, -, hD1, hD2⟩ := l1
    obtain ⟨D0, rfl⟩ := name1 hN9
    obtain ⟨ws, hws⟩ := name3 hI9
    subst hws
    refine kdl_iter (nn := 0) (fun _ _ => CellJ _ _ _ _) rfl (List.Mem.head _) hF9 (news := [_, _, _]) (fun p hp => hN9 p ((by kcj_all : ∀ p ∈ [_, (_, oL), (_, oO)], p ∈ _) p hp)) ⟨_, _, _, _, rfl, hO, hLc⟩ ?_ ?_
    · intro i v m₁ news₁ h tk own hv hoff hl hJ F₁ N₁
      obtain ⟨oO', oL', w1, w2, rfl, hO', hLc'⟩ := hJ
      obtain ⟨cell, tc, rfl, -⟩ := hI9.at _ _ hv
      (try dsimp only at F₁ N₁)
      simp only [List.cons_append, List.nil_append] at N₁
      show wpAny (model PySem.Challenge.pw_pc0142_01 _) _ _ _ _ _
      k_fold
      have hMk := kstMark
      have hHM : HeldMark := trivial
      k_extra "my steps"
      unfold Held
      rename Fr _ _ _ _ => hF
      rename News _ _ _ _ => hN
      replace hN := cb_tail (cb_tail (cb_tail hN))
      generalize (if cell < 0 then -cell else cell).fdiv 7 = R at hF ⊢
      obtain ⟨sg, hsg⟩ : ∃ b : Bool, b = (decide (0 < R.fmod 3) || mustSign kd) := ⟨_, rfl⟩
      refine cut_at (fun v => v = .bool sg) hF hN ?_ ?_
      · repeat (rename HeldMark => hq; clear hq)
        by_cases h3 : 0 < R.fmod 3
        · have hd3 := decide_eq_true h3
          rw [hd3, Bool.true_or] at hsg
          subst hsg
          k_extra "my steps"
          exact CutEnd.intro (by k_asm) (by k_asm) (fun _ h => h) (congrArg Value.bool hd3)
        · rw [decide_eq_false h3, Bool.false_or] at hsg
          subst hsg
          k_extra "my steps"
          exact CutEnd.intro (by k_asm) (by k_asm) (fun _ h => List.mem_cons_of_mem _ h) rfl
      intro v1 h6 k6 hv1 F6 N6
      subst hv1
      clear hF hN
      show wpAny _ _ _ _ _ _
      (try k_fold)
      k_extra "my steps"
      unfold Held
      rename Fr _ _ _ _ => hF
      rename News _ _ _ _ => hN
      replace hN := cb_tail hN
      generalize R.fdiv 3 = R2 at hF ⊢
      obtain ⟨D, hD⟩ : ∃ d : Nat, d = digitsOf kd R2 := ⟨_, rfl⟩
      obtain ⟨hd1, hd2⟩ : 1 ≤ D ∧ D ≤ 18 := hD ▸ digits_in kd R2
      refine cut_at (fun v => ∃ t, v = .int (D : Nat) t) hF hN ?_ ?_
      · repeat (rename HeldMark => hq; clear hq)
        by_cases hki : kd = Str.ofString "index"
        · have hne : (kd != Str.ofString "index") = false := by rw [hki]; decide
          have hD9 : D = 9 := hD.trans (if_pos hki)
          subst hD9
          k_extra "my steps"
          exact CutEnd.intro (by k_asm) (by k_asm) (fun _ h => h) ⟨_, rfl⟩
        · have hne : (kd != Str.ofString "index") = true := bne_iff_ne.mpr hki
          have hDi : (D : Int) = 1 + R2.fmod 18 := by rw [hD]; exact digits_is hki
          k_extra "my steps"
          exact CutEnd.intro (by k_asm) (by k_asm) (fun _ h => h) ⟨_, intVal hDi.symm⟩
      intro v2 h7 k7 hv2 F7 N7
      obtain ⟨t2, rfl⟩ := hv2
      clear hF hN
      show wpAny _ _ _ _ _ _
      (try k_fold)
      k_extra "my steps"
      unfold Held
      rename Fr _ _ _ _ => hF
      rename News _ _ _ _ => hN
      replace hN := cb_tail hN
      generalize R2.fdiv 18 = R3 at hF ⊢
      obtain ⟨sc, hS⟩ : ∃ d : Nat, d = scaleOf kd R3 D := ⟨_, rfl⟩
      have hsc : sc ≤ D := hS ▸ scale_in kd R3 D
      refine cut_at (fun v => ∃ t, v = .int (sc : Nat) t) hF hN ?_ ?_
      · repeat (rename HeldMark => hq; clear hq)
        by_cases hki : kd = Str.ofString "index"
        · have hne : (kd != Str.ofString "index") = false := by rw [hki]; decide
          have hS0 : sc = 0 := hS.trans (if_pos hki)
          subst hS0
          k_extra "my steps"
          exact CutEnd.intro (by k_asm) (by k_asm) (fun _ h => h) ⟨_, rfl⟩
        · have hne : (kd != Str.ofString "index") = true := bne_iff_ne.mpr hki
          have hSi : (sc : Int) = R3.fmod (D + 1) := by rw [hS]; exact scale_is hki
          k_extra "my steps"
          exact CutEnd.intro (by k_asm) (by k_asm) (fun _ h => h) ⟨_, intVal hSi.symm⟩
      intro v3 h8 k8 hv3 F8 N8
      obtain ⟨t3, rfl⟩ := hv3
      clear hF hN
      show wpAny _ _ _ _ _ _
      (try k_fold)
      k_extra "my steps"
      unfold Held
      obtain ⟨cat, us, sn, size, sep, hK⟩ := kind_is kd hkd sg D (fun e => by rw [hsg, e, Bool.or_true]) (fun e => hD.trans (if_pos e))
      k_dflt (refine' Spec.use8 (law_shape_all _ _ _ _ hK hd1 hd2 hsc (pic_text sg D sc hd1 hd2 hsc)) ?k1 ?k2 ?k3 ?k4 ?k5 ?kK ?ks ?kd ?ku ?_; k_extra "my sides")
      intro x dx es n h' tk' F2 N3 hne2 hShp hno hltx
      refine hShp.elim fun c1 c2 c3 c4 c6 f1 f2 f3 f4 f5 f6 f7 => ?_
      (try simp only [List.cons_append, List.nil_append] at N3)
      clear hD hsg hS
      show wpAny (model PySem.Challenge.pw_pc0142_01 _) _ _ _ _ _
      (try k_fold)
      k_extra "my steps"
      unfold Held
      rename Fr _ _ _ _ => hF
      rename News _ _ _ _ => hN
      obtain ⟨SL, rfl⟩ := name1 hN
      rename (_ ∧ _ ∧ _ ∧ _ ∧ _ ∧ _ ∧ _ ∧ _ ∧ AllLt _ _) => hlS
      obtain ⟨-, -, hs1, hs2, -, hs3, hs4, hs5, hs6⟩ := hlS
      have hx1 : ¬ (@Eq Nat x SL) := Nat.ne_of_lt hs1
      have hx4 : ¬ (@Eq Nat dx SL) := Nat.ne_of_lt hs2
      have hx2 : ¬ (@Eq Nat x _) := (hne2.at (_, oL') (by k_mem)).1
      have hx3 : ¬ (@Eq Nat x _) := (hne2.at (_, oO') (by k_mem)).1
      have hx5 : ¬ (@Eq Nat dx _) := (hne2.at (_, oL') (by k_mem)).2
      have hx6 : ¬ (@Eq Nat dx _) := (hne2.at (_, oO') (by k_mem)).2
      have hx7 : ¬ (@Eq Nat SL _) := Nat.ne_of_gt hs4
      have hx8 : ¬ (@Eq Nat SL _) := Nat.ne_of_gt hs5
      refine For_invVF hF (by rfl) (by rfl) ?_ (fun _ => rfl)
      k_extra "my plain steps"
      rename Fr _ _ _ _ => hF
      rename News _ _ _ _ => hN
      rename IntsAre _ _ => hI7
      obtain ⟨-, q1, -, -, -, -, -, -, q2, q3, -⟩ := l1
      refine seen_iter (fun u => byteArr (octs us size D sg sep (sn == Str.ofString "leading") u)) (Keeps D sg) rfl hI7 hF hN rfl rfl rfl rfl rfl (fixed_off q1 q2 q3 hs1 hs2 hs3 hs6 hx2 hx3 hx5 hx6 hD1 hD2 hoff) seen_all hLc' hO' ?_ ?_
      · clear hF hN hI7
        intro i7 v7 t7 u7 ts k7 tos oO7 oL7 c7 c8 h tk own2 rest hv7 hr hS hti hin hO7 hL7 ho hro hsub hoff7 F₁ N₁
        rw [seen_len] at hin
        have hlen : ts.length ≤ 20 := by rw [hti]; exact Nat.le_trans (Nat.le_of_lt hin) (by decide)
        have hfits := hK.fits hd2
        have hkp := kept_keeps D sg v7
        have hok := hK.ok hd2
        (try dsimp only at F₁ N₁)
        show wpAny (model PySem.Challenge.pw_pc0142_01 _) _ _ _ _ _
        k_fold
        have hMk := kstMark
        k_extra "my steps"
        rename Fr _ _ _ _ => hF
        rename News _ _ _ _ => hN
        refine ⟨SL, ts, k7, List.replicate ts.length none, _, rfl, rfl, hF, hN, List.Mem.head _, Nat.le_trans hlen (by decide), List.length_replicate, ?_, ?_⟩
        · intro s₂ hs₂ i8 v8 z8 hv8 hz8
          obtain ⟨h9, rfl⟩ := hs₂
          obtain ⟨T8, u8, a8, b8, rfl, hP8, hm8⟩ := hS _ (List.mem_of_getElem? hv8)
          obtain rfl : z8 = none := List.eq_of_mem_replicate (List.mem_of_getElem? hz8)
          have hiff : byteArr (octs us size D sg sep (sn == Str.ofString "leading") u8) = byteArr (octs us size D sg sep (sn == Str.ofString "leading") (kept D sg v7)) ↔ u8 = kept D sg v7 := ⟨fun e => octs_inj hK hd1 hd2 hP8 hkp e, fun e => by rw [e]⟩
          refine ⟨T8, _, _, _, _, List.mem_cons_of_mem _ (List.mem_cons_of_mem _ (List.mem_cons_of_mem _ (List.mem_cons_of_mem _ (List.mem_cons_of_mem _ (hsub _ hm8))))), rfl, rfl, ?_⟩
          intro I oI C oC D9 m₂ ys h tk E' hC hy1 hy2 F₂ N₂ off ne hMk
          have off9 := off
          clear hF hN
          simp only [LCg.Off3, and_true] at off
          (try dsimp only)
          show wpAny (model PySem.Challenge.pw_pc0142_01 _) _ _ _ _ _
          k_fold
          k_extra "my steps"
          · exact seen_test hiff
          · exact LCg.CompEnd.intro (by k_asm) (by k_asm) _ (fun _ h => h) off9 trivial rfl
        · intro s₂ hs₂ ys hy D9 h tk F₂ N₂ off
          obtain ⟨h9, rfl⟩ := hs₂
          rw [none_filter] at hy
          obtain rfl := hy.nil_inv
          clear hF hN
          (try dsimp only)
          show wpAny (model PySem.Challenge.pw_pc0142_01 _) _ _ _ _ _
          (try k_fold)
          simp only [LCg.Off1, and_true] at off
          k_extra "my steps"
          subst hr
          rename Fr _ _ _ _ => hF
          rename News _ _ _ _ => hN
          rename (_ ∧ _ ∧ _ ∧ _ ∧ _ ∧ _ ∧ _ ∧ AllLt _ _) => hlT
          obtain ⟨-, -, z1, z2, z3, -, -, z4⟩ := hlT
          exact seen_step (f := fun u => byteArr (octs us size D sg sep (sn == Str.ofString "leading") u)) (P := Keeps D sg) hF hN hS hti hkp (List.Mem.head _) (List.Mem.head _) (by k_mem) (by k_mem) (by k_mem) (fun p hp => List.mem_cons_of_mem _ (List.mem_cons_of_mem _ (List.mem_cons_of_mem _ (List.mem_cons_of_mem _ (List.mem_cons_of_mem _ (List.mem_cons_of_mem _ (List.mem_cons_of_mem _ (List.mem_cons_of_mem _ hp)))))))) (by assumption) (by assumption) z1 z2 z3 z4 ho hoff7 rfl rfl rfl rfl rfl
      · intro m9 oO9 oL9 c9 c9' h tk hO9 hL9 F₁ N₁
        (try dsimp only)
        show wpAny (model PySem.Challenge.pw_pc0142_01 _) _ _ _ _ _
        (try k_fold)
        k_extra "my steps"
        exact cell_step (by k_asm) (by k_asm) hL9 hO9 hoff
    · intro m₁ news₁ h tk hJ F₁ N₁
      obtain ⟨oO', oL', w1, w2, rfl, hO', hLc'⟩ := hJ
      (try dsimp only)
      show wpAny (model PySem.Challenge.pw_pc0142_01 _) _ _ _ _ _
      (try k_fold)
      k_extra "my steps"
      first | (k_end; kc_close) | kc_close
end
end Mine
theorem PySem.Challenge.cw_pc0142_01_holds : PySem.Challenge.rw_pc0142_01.Holds :=
  Mine.law_try
