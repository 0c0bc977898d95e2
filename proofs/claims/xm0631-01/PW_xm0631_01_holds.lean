import PyProof.Rows.All
import Wide.All
import OpenK.AllK
import Wide.FinOn
import KE.KPairTest
import KE.KLcTest
import PySem.Challenge.RW_xm0631_01
open PySem PySem.W PyProof.Rows
set_option Elab.async false
set_option compiler.extract_closed false
set_option maxRecDepth 100000 in
set_option maxHeartbeats 8000000 in
open_top Mine.hd for PySem.Challenge.rw_xm0631_01
namespace Mine
open PySem PySem.W PyProof.Rows PySem.Calls PyProof.V PySem.Spec
set_option maxRecDepth 100000
-- Base
section
/-- what a call gives back: it ends in a value, keeps g, and Post holds of g, the heap and the value -/
def After (g : Heap) (s : Shared) (Post : Heap → Heap → Value → Prop) (r : Result) (s' : Shared) : Prop :=
  ∃ v h' tk', r = .ok (.ret v) ∧ s' = { s with heap := h', toks := tk' } ∧ (∀ b o, g.get? b = some o → h'.get? b = some o) ∧ Post g h' v

def Spec (w : World) (f : Addr) (vals : List Value) (Pre : Heap → Prop) (touch : List (Addr × Obj)) (fuel : Nat) (Post : Heap → Heap → Value → Prop) : Prop :=
  ∀ (mg mb : Str → Option Value) (mean : ExcName → Option Value) (dp un : Nat) (gd : Option (List Code)) (base g : Heap) (env : Env) (outer : List Env) (s : Shared),
    Below { handled := none, depth := dp, frames := some (env :: outer), guards := gd, units := un } base (env :: outer) g →
    (Mine.hd.heap_39 w.params).In g → Top Mine.hd.view_39 (looseW Mine.hd.view_39 []) mean mg mb g →
    (∀ b o, g.get? b = some o → s.heap.get? b = some o) → g.objs.size = s.heap.objs.size →
    Pre g → (∀ p ∈ touch, s.heap.get? p.1 = some p.2 ∧ g.get? p.1 = none) → dp + fuel < recursionLimit → un + 8 * fuel < cLine →
    codeAny (model PySem.Challenge.rw_xm0631_01.row.prog w) { handled := none, depth := dp, frames := some (env :: outer), guards := gd, units := un } (.call (.ref f) ⟨vals, []⟩) (After g s Post) s

theorem enter {prog : Program} {w : World} {A : Around} {s : Shared} {K : Frag} {base g : Heap} {mg mb : Str → Option Value} {touch : List (Addr × Obj)} {p : Program} {loose : List Str} {mean : ExcName → Option Value} {outer : List Env}
    {R : Result → Shared → Prop} {name qual : Str} {params : Arguments} {body : List Stmt} {scope : Scope} {dV kV doc pm cdv ct oc : Value} {an od : Option Addr} {osl : Array (Option Value)} {f : Addr} {args : Args} {binds : List (Str × Value)}
    (B : Below A base outer g) (X : K.In g) (T : Top p loose mean mg mb g) (hk : ∀ b o, g.get? b = some o → s.heap.get? b = some o) (hz : g.objs.size = s.heap.objs.size)
    (ht : ∀ p ∈ touch, s.heap.get? p.1 = some p.2 ∧ g.get? p.1 = none)
    (ho : K.lookup f = some ⟨oc, od, .func (fnOf name qual params body scope dV kV doc pm an cdv ct), osl⟩) (hcd : codeIn K cdv qual = true) (hroom : A.depth < recursionLimit)
    (hbind : BindsTo s (fnOf name qual params body scope dV kV doc pm an cdv ct) args binds) (hloc : ∀ y ∈ binds, scope.names.lookup y.1 = some .local)
    (h : ∀ L' h₁, Fr g L' h₁ (fun y => binds.reverse.lookup y) → News g L' h₁ touch → (∀ p ∈ touch, p.1 < L') →
      wpAny (model prog w) (A.deeper (envOf qual scope L' f cdv)) (execs body (envOf qual scope L' f cdv))
        (fun fl s' => R (.ok (.ret (match fl with | .ret v => v | _ => .none))) s')
        (fun _ _ => False)
        { s with heap := h₁, toks := s.toks + binds.length })
    (hco : scope.isCoroutine = false) (hgen : scope.isGenerator = false) (hkd : scope.kind = .function)
    (hcell : ∀ x ∈ scope.names, x.2 ≠ .cell) : codeAny (model prog w) A (.call (.ref f) args) R s := by
  refine codeAny_call_def (fd := fnX name qual params body scope [] dV kV doc pm an cdv ct) (body := body) (binds := binds) hroom (hk _ _ (X _ _ ho)) rfl (T.nolimit.keeps hk) (codeRec_of (X.keeps hk) hcd) rfl hbind hcell hloc (fun h₁ hns hk₁ => ?_) hco hgen hkd
  refine wpAny_mono (h s.heap.objs.size h₁ ⟨hns, fun b o e => hk₁ b o (hk b o e), Nat.le_of_eq hz⟩ (fun p hp => ⟨hk₁ _ _ (ht p hp).1, Nat.ne_of_lt (Heap.lt_size (ht p hp).1), (ht p hp).2⟩) (fun p hp => Heap.lt_size (ht p hp).1)) (fun fl s' hl => hl) fun _ _ y => y.elim

theorem use_spec {w : World} {f : Addr} {vals : List Value} {Pre : Heap → Prop} {touch : List (Addr × Obj)} {fuel : Nat} {Post : Heap → Heap → Value → Prop} (Sp : Spec w f vals Pre touch fuel Post)
    {dp un : Nat} {gd : Option (List Code)} {env : Env} {outer : List Env} {A₀ : Around} {base h₀ : Heap} {L : Addr} {m : Str → Option Value} {s : Shared} {news : List (Addr × Obj)} {Q E : Value → Shared → Prop} {mg mb : Str → Option Value} {mean : ExcName → Option Value}
    (rest : List (Addr × Obj)) (B : Below A₀ base outer h₀) (F : Fr h₀ L s.heap m) (X : (Mine.hd.heap_39 w.params).In h₀) (T : Top Mine.hd.view_39 (looseW Mine.hd.view_39 []) mean mg mb h₀) (N : News h₀ L s.heap news)
    (hf : env.frame = some L) (hke : env.scope.kind = .function) (ht : ∀ p ∈ touch, p ∈ news) (hr : ∀ p ∈ rest, p ∈ news) (hd : ∀ p ∈ rest, ∀ q ∈ touch, p.1 ≠ q.1)
    (hpre : ∀ g : Heap, (∀ p ∈ rest, g.get? p.1 = some p.2) → (∀ b o, h₀.get? b = some o → g.get? b = some o) → Pre g)
    (hdp : dp + fuel < recursionLimit) (hun : un + 8 * fuel < cLine)
    (k : ∀ g h' tk' v, Fr h₀ L h' m → News h₀ L h' rest → (∀ a, g.get? a = none → a ≠ L ∧ h₀.get? a = none ∧ ∀ p ∈ rest, a ≠ p.1) → Post g h' v → Q v { s with heap := h', toks := tk' }) :
    wpAny (model PySem.Challenge.rw_xm0631_01.row.prog w) { handled := none, depth := dp, frames := some (env :: outer), guards := gd, units := un } (call (.ref f) vals) Q E s := by
  have N' : News h₀ L s.heap touch := fun p hp => N p (ht p hp)
  obtain ⟨FG, BG, st, _⟩ := groundX (R := fun _ _ => True) (A := { handled := none, depth := dp, frames := some (env :: outer), guards := gd, units := un }) B F N' rfl hf hke
  have nt : ∀ p ∈ rest, p.1 ∉ touch.map (·.1) := fun p hp q => by
    obtain ⟨t, ht', e⟩ := List.mem_map.mp q
    exact hd p hp t ht' e.symm
  refine wpAny_call (codeAny_mono (Sp mg mb mean dp un gd base _ env outer s BG (X.keeps st) (T.keeps st) (fun b o e => of_hideAll _ e) (hideAll_size _ _) (hpre _ (fun p hp => hideAll_get _ (N p (hr p hp)).1 (nt p hp)) st) (fun p hp => ⟨(N' p hp).1, hideAll_none _ (List.mem_map_of_mem hp)⟩) hdp hun) fun r s' hr' => ?_)
  obtain ⟨v, h', tk', rfl, rfl, hk, hp⟩ := hr'
  refine k _ h' tk' v ⟨FG.ns.at' fun o e => hk L o e, fun b o e => hk b o (st b o e), F.above⟩ (fun p hp => ⟨hk _ _ (hideAll_get _ (N p (hr p hp)).1 (nt p hp)), (N p (hr p hp)).2⟩) (fun a ha => ⟨fun e => ?_, ?_, fun p hp e => ?_⟩) hp
  · obtain ⟨o, _, _, q, _⟩ := FG.ns
    rw [e, q] at ha; cases ha
  · cases q : h₀.get? a with
    | none => rfl
    | some o => rw [st _ _ q] at ha; cases ha
  · rw [e, hideAll_get _ (N p (hr p hp)).1 (nt p hp)] at ha; cases ha

theorem use_pure {w : World} {f : Addr} {vals : List Value} {fuel : Nat} {Post : Heap → Heap → Value → Prop} (Sp : Spec w f vals (fun _ => True) [] fuel Post)
    {dp un : Nat} {gd : Option (List Code)} {env : Env} {outer : List Env} {A₀ : Around} {base h₀ : Heap} {L : Addr} {m : Str → Option Value} {s : Shared} {news : List (Addr × Obj)} {Q E : Value → Shared → Prop} {mg mb : Str → Option Value} {mean : ExcName → Option Value}
    (B : Below A₀ base outer h₀) (F : Fr h₀ L s.heap m) (X : (Mine.hd.heap_39 w.params).In h₀) (T : Top Mine.hd.view_39 (looseW Mine.hd.view_39 []) mean mg mb h₀) (N : News h₀ L s.heap news)
    (hf : env.frame = some L) (hke : env.scope.kind = .function) (hdp : dp + fuel < recursionLimit) (hun : un + 8 * fuel < cLine)
    (k : ∀ g h' tk' v, Fr h₀ L h' m → News h₀ L h' news → (∀ a, g.get? a = none → a ≠ L ∧ h₀.get? a = none ∧ ∀ p ∈ news, a ≠ p.1) → Post g h' v → Q v { s with heap := h', toks := tk' }) :
    wpAny (model PySem.Challenge.rw_xm0631_01.row.prog w) { handled := none, depth := dp, frames := some (env :: outer), guards := gd, units := un } (call (.ref f) vals) Q E s :=
  use_spec Sp news B F X T N hf hke (fun _ h => nomatch h) (fun _ h => h) (fun _ _ _ h => nomatch h) (fun _ _ _ => trivial) hdp hun k

theorem use_ro {w : World} {f : Addr} {vals : List Value} {touch : List (Addr × Obj)} {fuel : Nat} {Post : Heap → Heap → Value → Prop} (Sp : Spec w f vals (fun _ => True) touch fuel (fun g h' v => (∀ p ∈ touch, h'.get? p.1 = some p.2) ∧ Post g h' v))
    {dp un : Nat} {gd : Option (List Code)} {env : Env} {outer : List Env} {A₀ : Around} {base h₀ : Heap} {L : Addr} {m : Str → Option Value} {s : Shared} {news : List (Addr × Obj)} {Q E : Value → Shared → Prop} {mg mb : Str → Option Value} {mean : ExcName → Option Value}
    (B : Below A₀ base outer h₀) (F : Fr h₀ L s.heap m) (X : (Mine.hd.heap_39 w.params).In h₀) (T : Top Mine.hd.view_39 (looseW Mine.hd.view_39 []) mean mg mb h₀) (N : News h₀ L s.heap news)
    (hf : env.frame = some L) (hke : env.scope.kind = .function) (ht : ∀ p ∈ touch, p ∈ news) (hdp : dp + fuel < recursionLimit) (hun : un + 8 * fuel < cLine)
    (k : ∀ g h' tk' v, Fr h₀ L h' m → News h₀ L h' news → Post g h' v → Q v { s with heap := h', toks := tk' }) :
    wpAny (model PySem.Challenge.rw_xm0631_01.row.prog w) { handled := none, depth := dp, frames := some (env :: outer), guards := gd, units := un } (call (.ref f) vals) Q E s := by
  refine use_spec Sp (news.filter fun p => !(touch.map (·.1)).contains p.1) B F X T N hf hke ht (fun p hp => (List.mem_filter.mp hp).1) (fun p hp q hq e => ?_) (fun _ _ _ => trivial) hdp hun fun g h' tk' v F' N' _ hp => k g h' tk' v F' (fun p hm => ?_) hp.2
  · have h2 := (List.mem_filter.mp hp).2
    rw [Bool.not_eq_true', ← Bool.not_eq_true] at h2
    exact h2 (List.contains_iff_mem.mpr (e ▸ List.mem_map_of_mem hq))
  · by_cases hc : (touch.map (·.1)).contains p.1 = true
    · obtain ⟨q, hq, e⟩ := List.mem_map.mp (List.contains_iff_mem.mp hc)
      have h1 := (N q (ht q hq)).1
      have h2 := (N p hm).1
      have e' : q.1 = p.1 := e
      rw [e', h2] at h1
      refine ⟨?_, (N p hm).2⟩
      have h3 := hp.1 q hq
      rw [e', ← Option.some.inj h1] at h3
      exact h3
    · exact N' p (List.mem_filter.mpr ⟨hm, by rw [Bool.not_eq_true] at hc; rw [hc]; rfl⟩)

theorem use_code {w : World} {f : Addr} {vals : List Value} {touch : List (Addr × Obj)} {fuel : Nat} {Post : Heap → Heap → Value → Prop} (Sp : Spec w f vals (fun _ => True) touch fuel Post)
    {A : Around} {env : Env} {outer : List Env} {A₀ : Around} {base h₀ : Heap} {L : Addr} {m : Str → Option Value} {s : Shared} {news : List (Addr × Obj)} {R : Result → Shared → Prop} {mg mb : Str → Option Value} {mean : ExcName → Option Value}
    (rest : List (Addr × Obj)) (hA : A.frames = some (env :: outer)) (hh : A.handled = none) (B : Below A₀ base outer h₀) (F : Fr h₀ L s.heap m) (X : (Mine.hd.heap_39 w.params).In h₀) (T : Top Mine.hd.view_39 (looseW Mine.hd.view_39 []) mean mg mb h₀) (N : News h₀ L s.heap news)
    (hf : env.frame = some L) (hke : env.scope.kind = .function) (ht : ∀ p ∈ touch, p ∈ news) (hr : ∀ p ∈ rest, p ∈ news) (hd : ∀ p ∈ rest, ∀ q ∈ touch, p.1 ≠ q.1)
    (hdp : A.depth + fuel < recursionLimit) (hun : A.units + 8 * fuel < cLine)
    (k : ∀ g h' tk' v, Fr h₀ L h' m → News h₀ L h' rest → (∀ a, g.get? a = none → a ≠ L ∧ h₀.get? a = none ∧ ∀ p ∈ rest, a ≠ p.1) → Post g h' v → R (.ok (.ret v)) { s with heap := h', toks := tk' }) :
    codeAny (model PySem.Challenge.rw_xm0631_01.row.prog w) A (.call (.ref f) ⟨vals, []⟩) R s := by
  obtain ⟨hd0, dp, fr, gd, un⟩ := A
  cases hA
  cases hh
  have N' : News h₀ L s.heap touch := fun p hp => N p (ht p hp)
  obtain ⟨FG, BG, st, _⟩ := groundX (R := fun _ _ => True) (A := { handled := none, depth := dp, frames := some (env :: outer), guards := gd, units := un }) B F N' rfl hf hke
  have nt : ∀ p ∈ rest, p.1 ∉ touch.map (·.1) := fun p hp q => by
    obtain ⟨t, ht', e⟩ := List.mem_map.mp q
    exact hd p hp t ht' e.symm
  refine codeAny_mono (Sp mg mb mean dp un gd base _ env outer s BG (X.keeps st) (T.keeps st) (fun b o e => of_hideAll _ e) (hideAll_size _ _) trivial (fun p hp => ⟨(N' p hp).1, hideAll_none _ (List.mem_map_of_mem hp)⟩) hdp hun) fun r s' hr' => ?_
  obtain ⟨v, h', tk', rfl, rfl, hk, hp⟩ := hr'
  refine k _ h' tk' v ⟨FG.ns.at' fun o e => hk L o e, fun b o e => hk b o (st b o e), F.above⟩ (fun p hp => ⟨hk _ _ (hideAll_get _ (N p (hr p hp)).1 (nt p hp)), (N p (hr p hp)).2⟩) (fun a ha => ⟨fun e => ?_, ?_, fun p hp e => ?_⟩) hp
  · obtain ⟨o, _, _, q, _⟩ := FG.ns
    rw [e, q] at ha; cases ha
  · cases q : h₀.get? a with
    | none => rfl
    | some o => rw [st _ _ q] at ha; cases ha
  · rw [e, hideAll_get _ (N p (hr p hp)).1 (nt p hp)] at ha; cases ha

theorem news_cons {h₀ h : Heap} {L a : Addr} {o : Obj} {news : List (Addr × Obj)} (N : News h₀ L h news) (e : h.get? a = some o) (n : a ≠ L ∧ h₀.get? a = none) : News h₀ L h ((a, o) :: news) := fun p hp => by
  rcases List.mem_cons.mp hp with rfl | hp
  · exact ⟨e, n⟩
  · exact N p hp
theorem news_sub {h₀ h : Heap} {L : Addr} {a b : List (Addr × Obj)} (N : News h₀ L h a) (hs : ∀ p ∈ b, p ∈ a) : News h₀ L h b := fun p hp => N p (hs p hp)
theorem news_app {h₀ h : Heap} {L : Addr} {a b : List (Addr × Obj)} (N : News h₀ L h a) (N' : News h₀ L h b) : News h₀ L h (a ++ b) := fun p hp => (List.mem_append.mp hp).elim (N p) (N' p)

theorem getD_z (x : Int) (r : List Int) : (x :: r).getD (Int.toNat 0) 0 = x := rfl
theorem getD_o (x y : Int) (r : List Int) : (x :: y :: r).getD (Int.toNat 1) 0 = y := rfl
theorem mul_small {prog : Program} {w : World} {A : Around} {E : Value → Shared → Prop} {s : Shared} {a b : Int} {t u : Tok} {Q : Value → Shared → Prop} (h0 : 0 ≤ a) (h1 : a < 2 ^ 62) (h : Q (.int (a * b) s.toks) { s with toks := s.toks + 1 }) :
    wpAny (model prog w) A (binaryOp .Mult (.int a t) (.int b u)) Q E s := mul_int h (IntMulOk.of_left (intBits_le_64 (by omega) (by omega)))
theorem fm_0 (a b : Int) (h : 0 < b) : 0 ≤ Int.fmod a b := by rw [Int.fmod_eq_emod_of_nonneg a (Int.le_of_lt h)]; exact Int.emod_nonneg a (by omega)
theorem fm_lt (a b : Int) (h : 0 < b) : Int.fmod a b < b := by rw [Int.fmod_eq_emod_of_nonneg a (Int.le_of_lt h)]; exact Int.emod_lt_of_pos a h
theorem fd_0 (a b : Int) (ha : 0 ≤ a) (h : 0 < b) : 0 ≤ Int.fdiv a b := by rw [Int.fdiv_eq_ediv_of_nonneg a (Int.le_of_lt h)]; exact Int.ediv_nonneg ha (by omega)
theorem After.intro {g : Heap} {s : Shared} {Post : Heap → Heap → Value → Prop} {v : Value} {h' : Heap} {tk' : Nat} {L : Addr} {m : Str → Option Value} (F : Fr g L h' m) (hp : Post g h' v) : After g s Post (.ok (.ret v)) { s with heap := h', toks := tk' } := ⟨v, h', tk', rfl, rfl, F.keep, hp⟩
end
-- Loops
section
/-- a goal that the walk is to leave as it stands -/
def Hold (P : Prop) : Prop := P
theorem Hold.out {P : Prop} (h : Hold P) : P := h
theorem Hold.mk {P : Prop} (h : P) : Hold P := h

section
variable {prog : Program} {w : World} {A : Around} {E : Value → Shared → Prop} {s : Shared} {env : Env} {h₀ : Heap} {x : Str} {body : List Stmt} {Q : Flow → Shared → Prop}

def WTurn (I : Nat → Shared → Prop) (n : Nat) (Q : Flow → Shared → Prop) (f : Flow) (s₃ : Shared) : Prop :=
  match f with
  | .next => ∃ k, k < n ∧ I k s₃
  | .cont => ∃ k, k < n ∧ I k s₃
  | .brk => Q .next s₃
  | .ret v => Q (.ret v) s₃

theorem while_F {test : PySem.Expr} {orelse : List Stmt} {pos : Pos} (I : Nat → Shared → Prop)
    (turn : ∀ n s, I n s → wpAny (model prog w) A (isTrue test env (eval test env)) (fun b s₂ => if b = true then wpAny (model prog w) A (execs body env) (WTurn I n Q) (fun _ _ => False) s₂ else wpAny (model prog w) A (execs orelse env) Q (fun _ _ => False) s₂) (fun _ _ => False) s)
    (n : Nat) (h : I n s) : wpAny (model prog w) A (exec (.While test body orelse pos) env) Q (fun _ _ => False) s := by
  refine wpAny_While (codeAny_whileLoop I (fun n s hI => ?_) n h)
  refine wpAny_mono (turn n s hI) (fun b s₂ h₂ => ?_) fun _ _ x => x.elim
  cases b with
  | false =>
    simp only [Bool.false_eq_true, if_false] at h₂ ⊢
    exact wpAny_mono h₂ (fun f s₃ h₃ => h₃) fun _ _ x => x.elim
  | true =>
    simp only [if_true] at h₂ ⊢
    refine wpAny_mono h₂ (fun f s₃ h₃ => ?_) fun _ _ x => x.elim
    cases f <;> exact h₃

def TurnPost (h₀ : Heap) (L : Addr) (Jn : (Str → Option Value) → List (Addr × Obj) → Prop) (I : Addr) (oI : Obj) (s₁ : Shared) (Q : Flow → Shared → Prop) (f : Flow) (s₂ : Shared) : Prop :=
  match f with
  | .ret v => Q (.ret v) s₂
  | .brk => Q .next s₂
  | _ => ∃ h' tk m' nx, s₂ = { s₁ with heap := h', toks := tk } ∧ Fr h₀ L h' m' ∧ News h₀ L h' ((I, oI) :: nx) ∧ (∀ p ∈ nx, p.1 ≠ I) ∧ Jn m' nx

theorem TurnPost.next {L : Addr} {Jn : (Str → Option Value) → List (Addr × Obj) → Prop} {I : Addr} {oI : Obj} {s₁ : Shared} {m' : Str → Option Value} {nx : List (Addr × Obj)} {h' : Heap} {tk : Nat}
    (F : Fr h₀ L h' m') (N : News h₀ L h' ((I, oI) :: nx)) (hn : ∀ p ∈ nx, p.1 ≠ I) (hj : Jn m' nx) : TurnPost h₀ L Jn I oI s₁ Q .next { s₁ with heap := h', toks := tk } := ⟨h', tk, m', nx, rfl, F, N, hn, hj⟩
theorem loop_str {I : Addr} {n : Nat} {P : Nat → Value → Prop} {St : Nat → Heap → Prop} {m₀ : Str → Option Value} {news : List (Addr × Obj)} (J : Nat → (Str → Option Value) → List (Addr × Obj) → Prop)
    (W : Walks prog w A I [I] [I] n P St) (hIo : ∀ i h, St i h → ∃ o, h.get? I = some o) (hI0 : h₀.get? I = none) (hLI : env.locals ≠ I) (hnI : ∀ p ∈ news, p.1 ≠ I) (hst : St 0 s.heap)
    (F : Fr h₀ env.locals s.heap m₀) (N : News h₀ env.locals s.heap news) (hj : J 0 m₀ news)
    (turn : ∀ i v m₁ nx h tk oI, i < n → P i v → J i m₁ nx → Fr h₀ env.locals h (fun y => if y = x then some v else m₁ y) → News h₀ env.locals h ((I, oI) :: nx) → (∀ p ∈ nx, p.1 ≠ I) →
      wpAny (model prog w) A (execs body env) (TurnPost h₀ env.locals (J (i + 1)) I oI { s with heap := h, toks := tk } Q) E { s with heap := h, toks := tk })
    (done : ∀ m₁ nx h tk, J n m₁ nx → Fr h₀ env.locals h m₁ → News h₀ env.locals h nx → Q .next { s with heap := h, toks := tk }) :
    LoopAtV prog w A h₀ env x body Q E (.ref I) s := by
  refine ⟨I, _, _, n, _, _, m₀, news, J, rfl, W, ?_, ?_, ?_, hst, F, N, hj, ?_, ?_⟩
  · exact fun hm => hLI (List.mem_singleton.mp hm)
  · exact fun b' hb => by rw [List.mem_singleton.mp hb]; exact hI0
  · exact fun p hp hI => hnI p hp (List.mem_singleton.mp hI)
  · rintro i v m₁ news₁ s₁ own ⟨hh', tk', rfl⟩ hin hP hJ hoff hown hown2 hfp hst' F₁ N₁
    obtain ⟨oI, hoI⟩ := hIo _ _ hst'
    have hIown : (I, oI) ∈ own := hfp _ (List.mem_singleton.mpr rfl) hI0 _ hoI
    have N₂ : News h₀ env.locals hh' ((I, oI) :: news₁) := fun p hp => N₁ p (by
      rcases List.mem_cons.mp hp with rfl | hp
      · exact List.mem_append.mpr (.inl hIown)
      · exact List.mem_append.mpr (.inr hp))
    refine wpAny_mono (turn i v m₁ news₁ hh' tk' oI hin hP hJ F₁ N₂ fun p hp e => hoff p hp (List.mem_singleton.mpr e)) (fun f s₂ p => ?_) fun _ _ e => e
    have fin : (∃ h' tk m' nx, s₂ = { s with heap := h', toks := tk } ∧ Fr h₀ env.locals h' m' ∧ News h₀ env.locals h' ((I, oI) :: nx) ∧ (∀ p ∈ nx, p.1 ≠ I) ∧ J (i + 1) m' nx) → LoopStepU h₀ env.locals [I] own (J (i + 1)) { s with heap := hh', toks := tk' } .next s₂ := by
      rintro ⟨h', tk, m', nx, e, F', N', hn, hm⟩
      refine ⟨rfl, h', tk, m', nx, e, F', fun p hp => ?_, fun p hp hq => hn p hp (List.mem_singleton.mp hq), hm⟩
      rcases List.mem_append.mp hp with hp | hp
      · have h1 := List.mem_singleton.mp (hown p hp)
        have h2 : hh'.get? p.1 = some p.2 := hown2 p hp
        have h3 : p.2 = oI := by
          rw [h1, hoI] at h2
          exact (Option.some.inj h2).symm
        exact N' p (by rw [← h3, ← h1]; exact .head _)
      · exact N' p (.tail _ hp)
    cases f with
    | ret v => exact .ret p
    | brk => exact .brk p
    | next => exact .next (fin p)
    | cont => exact .cont (fin p)
  · rintro h' tk m' news' F' N' _ hJ
    exact done m' news' h' tk hJ F' N'

theorem iter_str {xt : Str} {tx : Tok} {m₀ : Str → Option Value} {news : List (Addr × Obj)} (J : Nat → (Str → Option Value) → List (Addr × Obj) → Prop)
    (hh : A.handled = none) (F : Fr h₀ env.locals s.heap m₀) (N : News h₀ env.locals s.heap news) (hj : J 0 m₀ news)
    (turn : ∀ i c t m₁ nx h tk I oI, xt.cps[i]? = some c → J i m₁ nx → Fr h₀ env.locals h (fun y => if y = x then some (.str ⟨#[c]⟩ t) else m₁ y) → News h₀ env.locals h ((I, oI) :: nx) → (∀ p ∈ nx, p.1 ≠ I) →
      wpAny (model prog w) A (execs body env) (TurnPost h₀ env.locals (J (i + 1)) I oI { s with heap := h, toks := tk } Q) E { s with heap := h, toks := tk })
    (done : ∀ m₁ nx h tk, J xt.cps.size m₁ nx → Fr h₀ env.locals h m₁ → News h₀ env.locals h nx → Q .next { s with heap := h, toks := tk }) :
    wpAny (model prog w) A (pyIter (.str xt tx)) (fun it s₂ => LoopAtV prog w A h₀ env x body Q E it s₂) E s := by
  have off : ∀ p ∈ news, p.1 ≠ s.heap.objs.size := fun p hp => Nat.ne_of_lt (Heap.lt_size (N p hp).1)
  cases ha : xt.cps.all (· < 128)
  · refine wpAny_pyIter_wide ha (loop_str J (Walks.strWide hh _ xt tx) (fun i h st => by obtain ⟨o, e, _⟩ := st; exact ⟨o, e⟩) (next_is_new F) (Nat.ne_of_lt F.ns.lt) off ⟨_, Heap.get?_push_size _ rfl, rfl, rfl⟩ (F.push _) (fun p hp => ⟨Heap.get?_push_of_some _ (N p hp).1, (N p hp).2⟩) hj ?_ done)
    rintro i v m₁ nx h tk oI hi ⟨c, t, hc, rfl⟩ hJ F' N' hn
    exact turn i c t m₁ nx h tk _ oI hc hJ F' N' hn
  · refine wpAny_pyIter_ascii ha (loop_str J (Walks.strAscii hh _ xt tx) (fun i h st => by obtain ⟨o, e, _⟩ := st; exact ⟨o, e⟩) (next_is_new F) (Nat.ne_of_lt F.ns.lt) off ⟨_, Heap.get?_push_size _ rfl, rfl, rfl⟩ (F.push _) (fun p hp => ⟨Heap.get?_push_of_some _ (N p hp).1, (N p hp).2⟩) hj ?_ done)
    rintro i v m₁ nx h tk oI hi ⟨c, t, hc, rfl⟩ hJ F' N' hn
    exact turn i c t m₁ nx h tk _ oI hc hJ F' N' hn
end
end
-- Seqs
section
section
variable {prog : Program} {w : World} {A : Around} {E : Value → Shared → Prop} {s : Shared} {h₀ : Heap} {L l : Addr} {m : Str → Option Value} {news : List (Addr × Obj)}

theorem item_at {value slice : PySem.Expr} {vs : List Value} {k : Int} {u : Tok} {v : Value} {Q : Value → Shared → Prop} (hl : s.heap.IsList l vs.toArray) (h0 : 0 ≤ k) (hhi : k < 2 ^ 63) (hx : vs[k.toNat]? = some v) (h : Q v s)
    (hs : subscripted slice false (.ref l) (.int k u) = operate [.ref l, .int k u] (getItem (.ref l) (.int k u)) := by with_unfolding_all rfl) :
    wpAny (model prog w) A (subscriptTail value slice (.ref l) (.int k u)) Q E s :=
  tail_any hl.typeIs slot_list_getitem.lookup (wpAny_getItem_list hl h0 hhi (by simpa using hx) h) hs

theorem len_at {vs : List Value} {n : Nat} {Q : Value → Shared → Prop} (N : News h₀ L s.heap news) (hm : (l, listOf vs.toArray n) ∈ news) (hfit : vs.length ≤ 1000) (h : Q (.int (vs.length : Int) (s.toks + 1)) { s with toks := s.toks + 1 + 1 }) : wpAny (model prog w) A (call (.builtin "len") [.ref l]) Q E s := by
  have hl : s.heap.IsList l vs.toArray := ⟨_, (N _ hm).1, rfl, n, rfl⟩
  have e2 : vs.toArray.size = vs.length := List.size_toArray
  exact len_list hl (by rw [e2]; omega) (by rw [e2]; exact h)
theorem seqIndex_last (n : Nat) : seqIndex? (-1) (n + 1) = some n := by
  rw [seqIndex_neg (by decide) (by omega)]
  congr 1
  omega
theorem get_last {value slice : PySem.Expr} {vs : List Value} {u : Tok} {v : Value} {Q : Value → Shared → Prop} (hl : s.heap.IsList l (vs ++ [v]).toArray) (h : Q v s)
    (hs : subscripted slice false (.ref l) (.int (-1) u) = operate [.ref l, .int (-1) u] (getItem (.ref l) (.int (-1) u)) := by with_unfolding_all rfl) :
    wpAny (model prog w) A (subscriptTail value slice (.ref l) (.int (-1) u)) Q E s :=
  kde_neg (j := vs.length) hl (by decide) (by decide) (by rw [List.length_append]; exact seqIndex_last _) (by simp) h hs

theorem ki_setL_last : ∀ (vs : List Value) (v v' : Value), ki_setL (vs ++ [v]) vs.length v' = some (vs ++ [v'])
  | [], _, _ => rfl
  | x :: r, v, v' => by
    show (match ki_setL (r ++ [v]) r.length v' with | some q => some (x :: q) | none => none) = _
    rw [ki_setL_last r v v']
    rfl
theorem set_last {vs : List Value} {v v' : Value} {n : Nat} {t : Tok} {Q : Unit → Shared → Prop} (rest : List (Addr × Obj)) (F : Fr h₀ L s.heap m) (N : News h₀ L s.heap news) (hm : (l, listOf (vs ++ [v]).toArray n) ∈ news) (hr : ∀ p ∈ rest, p ∈ news ∧ p.1 ≠ l)
    (k : ∀ h', Fr h₀ L h' m → News h₀ L h' ((l, listOf (vs ++ [v']).toArray n) :: rest) → Q () { s with heap := h' }) : wpAny (model prog w) A (setItem (.ref l) (.int (-1) t) v') Q E s := by
  have N' : News h₀ L s.heap ((l, listOf (vs ++ [v]).toArray n) :: rest) := fun p hp => by
    rcases List.mem_cons.mp hp with rfl | hp
    · exact N _ hm
    · exact N _ (hr p hp).1
  exact ki_setNeg (j := vs.length) (q := vs ++ [v']) F N' (by decide) (by decide) (by rw [List.size_toArray, List.length_append]; exact seqIndex_last _) (ki_setL_last vs v v') (Upd.head fun p hp => (hr p hp).2) k

theorem set_item {vs q : List Value} {v' : Value} {n : Nat} {i : Int} {t : Tok} {Q : Unit → Shared → Prop} (rest : List (Addr × Obj)) (F : Fr h₀ L s.heap m) (N : News h₀ L s.heap news) (hm : (l, listOf vs.toArray n) ∈ news) (hr : ∀ p ∈ rest, p ∈ news ∧ p.1 ≠ l)
    (h0 : 0 ≤ i) (hi : i < 2 ^ 63) (e : ki_setL vs i.toNat v' = some q)
    (k : ∀ h', Fr h₀ L h' m → News h₀ L h' ((l, listOf q.toArray n) :: rest) → Q () { s with heap := h' }) : wpAny (model prog w) A (setItem (.ref l) (.int i t) v') Q E s := by
  have N' : News h₀ L s.heap ((l, listOf vs.toArray n) :: rest) := fun p hp => by
    rcases List.mem_cons.mp hp with rfl | hp
    · exact N _ hm
    · exact N _ (hr p hp).1
  exact ki_set F N' h0 hi e (Upd.head fun p hp => (hr p hp).2) k

theorem append_at' {vs : List Value} {v' : Value} {n : Nat} {Q : Value → Shared → Prop} (rest : List (Addr × Obj)) (F : Fr h₀ L s.heap m) (N : News h₀ L s.heap news) (hm : (l, listOf vs.toArray n) ∈ news) (hr : ∀ p ∈ rest, p ∈ news ∧ p.1 ≠ l) (hsz : vs.length ≤ 1000)
    (k : ∀ h', Fr h₀ L h' m → News h₀ L h' ((l, listOf (vs ++ [v']).toArray (n + 1)) :: rest) → Q .none { s with heap := h' }) : wpAny (model prog w) A (call (.builtin "list.append") [.ref l, v']) Q E s := by
  have N' : News h₀ L s.heap ((l, listOf vs.toArray n) :: rest) := fun p hp => by
    rcases List.mem_cons.mp hp with rfl | hp
    · exact N _ hm
    · exact N _ (hr p hp).1
  refine append_K F N' (Upd.head fun p hp => (hr p hp).2) (fun h' F' N'' => k h' F' (by rw [List.push_toArray] at N''; exact N'')) ?_
  rw [List.size_toArray, PySem.sizeLine_eq]
  omega

/-- a list whose items read as data that is shaped is unlike the empty list just where it has an item -/
theorem eqvAll_nil (ds : List PyData) : PyData.eqvAll ds [] = ds.isEmpty := by cases ds <;> simp [PyData.eqvAll]
theorem ne_nil {e : Addr} {vs : List Value} {ds : List PyData} {as : List Addr} {k : Nat} {Q : Value → Shared → Prop} (hl : s.heap.IsList l vs.toArray) (hR : ReadsAll s.heap vs ds as) (hsh : SeqAt.shaped (.list ds) = true) (he : s.heap.get? e = some (listOf ([] : List Value).toArray k)) (hu : A.units + 64 < cLine)
    (h : Q (.bool (!ds.isEmpty)) s) : wpAny (model prog w) A (compareOp .NotEq (.ref l) (.ref e)) Q E s := by
  obtain ⟨o, ho, hc, n, hd⟩ := hl
  refine ne_dataH (reads_list_at ho hc hd (by simpa using hR)) (reads_list_at he rfl rfl ReadsAll.nil) hsh (by decide) hu ?_
  rw [show PyData.eqv (.list ds) (.list []) = PyData.eqvAll ds [] by simp only [PyData.eqv], eqvAll_nil]
  exact h
theorem eq_nil {e : Addr} {vs : List Value} {ds : List PyData} {as : List Addr} {k : Nat} {Q : Value → Shared → Prop} (hl : s.heap.IsList l vs.toArray) (hR : ReadsAll s.heap vs ds as) (hsh : SeqAt.shaped (.list ds) = true) (he : s.heap.get? e = some (listOf ([] : List Value).toArray k)) (hu : A.units + 64 < cLine)
    (h : Q (.bool ds.isEmpty) s) : wpAny (model prog w) A (compareOp .Eq (.ref l) (.ref e)) Q E s := by
  obtain ⟨o, ho, hc, n, hd⟩ := hl
  refine eq_dataH (reads_list_at ho hc hd (by simpa using hR)) (reads_list_at he rfl rfl ReadsAll.nil) hsh (by decide) hu ?_
  rw [show PyData.eqv (.list ds) (.list []) = PyData.eqvAll ds [] by simp only [PyData.eqv], eqvAll_nil]
  exact h
end

theorem slice_tail (v : Value) (vs : List Value) : (slicePick (v :: vs).toArray (some 1) none none).toList = vs := by
  have e : sliceBounds (some 1) none none (v :: vs).toArray.size = (((1 : Nat) : Int), ((vs.length + 1 : Nat) : Int), 1) := by
    simp only [sliceBounds, Option.getD_none, show (1 : Int) > 0 by decide, if_true, if_neg (show ¬ ((1 : Int) < 0) by omega), List.size_toArray, List.length_cons]
    congr 1
    omega
  rw [kmk_pick_nat _ e]
  simp
theorem slice_init (vs : List Value) (v : Value) : (slicePick (vs ++ [v]).toArray none (some (-1)) none).toList = vs := by
  have e : sliceBounds none (some (-1)) none (vs ++ [v]).toArray.size = (((0 : Nat) : Int), ((vs.length : Nat) : Int), 1) := by
    simp only [sliceBounds, Option.getD_none, show (1 : Int) > 0 by decide, if_true, if_pos (show ((-1 : Int) < 0) by omega), List.size_toArray, List.length_append, List.length_cons, List.length_nil]
    congr 1
    congr 1
    omega
  rw [kmk_pick_nat _ e]
  simp
theorem size_ok {vs : List Value} (h : vs.length ≤ 1000) : vs.toArray.size ≤ sizeLine := by rw [List.size_toArray, PySem.sizeLine_eq]; omega

/-- a piece: its address, its flag, its text -/
structure Pc where
  a : Addr
  b : Bool
  t : Str
  k : Tok
  n : Nat
abbrev Pc.ent (p : Pc) : Addr × Obj := (p.a, { cls := .type "tuple", data := .seq [.bool p.b, .str p.t p.k].toArray p.n })
abbrev Pc.lst (p : Pc) : Addr × Obj := (p.a, listOf [.bool p.b, .str p.t p.k].toArray p.n)
abbrev Pc.val (p : Pc) : Value := .ref p.a
def Pc.dat (p : Pc) : PyData := .tuple [.bool p.b, .str p.t]
def Pc.ldat (p : Pc) : PyData := .list [.bool p.b, .str p.t]
theorem reads_pcs {h : Heap} : ∀ {ps : List Pc}, (∀ p ∈ ps, h.get? p.a = some p.ent.2) → ∃ as, ReadsAll h (ps.map Pc.val) (ps.map Pc.dat) as
  | [], _ => ⟨_, ReadsAll.nil⟩
  | p :: r, hp => by
    obtain ⟨as, ih⟩ := reads_pcs fun q hq => hp q (.tail _ hq)
    exact ⟨_, ReadsAll.cons (reads_tuple_at (hp p (.head _)) rfl rfl (ReadsAll.cons (Reads.bool _) (ReadsAll.cons (Reads.str _ _) ReadsAll.nil))) ih⟩
theorem reads_lsts {h : Heap} : ∀ {ps : List Pc}, (∀ p ∈ ps, h.get? p.a = some p.lst.2) → ∃ as, ReadsAll h (ps.map Pc.val) (ps.map Pc.ldat) as
  | [], _ => ⟨_, ReadsAll.nil⟩
  | p :: r, hp => by
    obtain ⟨as, ih⟩ := reads_lsts fun q hq => hp q (.tail _ hq)
    exact ⟨_, ReadsAll.cons (reads_list_at (hp p (.head _)) rfl rfl (ReadsAll.cons (Reads.bool _) (ReadsAll.cons (Reads.str _ _) ReadsAll.nil))) ih⟩
def Fine (x : Str) : Prop := PyData.strOk x = true
theorem shaped_pcs {ps : List Pc} (h : ∀ p ∈ ps, Fine p.t) : SeqAt.shaped (.list (ps.map Pc.dat)) = true := by
  have h1 : PyData.canLayAll0 (ps.map Pc.dat) = true := by
    induction ps with
    | nil => simp [PyData.canLayAll0]
    | cons p r ih =>
      have hp : PyData.strOk p.t = true := h p (.head _)
      have := ih fun q hq => h q (.tail _ hq)
      simp [PyData.canLayAll0, PyData.canLay0, Pc.dat, this, hp]
  have h2 : PyData.depthAll (ps.map Pc.dat) ≤ 1 := by
    clear h h1
    induction ps with
    | nil => simp [PyData.depthAll]
    | cons p r ih => simp [PyData.depthAll, PyData.depth, Pc.dat]; omega
  show (PyData.canLay0 (.list (ps.map Pc.dat)) && decide (PyData.depth (.list (ps.map Pc.dat)) ≤ 64)) = true
  simp only [PyData.canLay0, PyData.depth, h1, Bool.true_and]
  exact decide_eq_true (by omega)
theorem shaped_lsts {ps : List Pc} (h : ∀ p ∈ ps, Fine p.t) : SeqAt.shaped (.list (ps.map Pc.ldat)) = true := by
  have h1 : PyData.canLayAll0 (ps.map Pc.ldat) = true := by
    induction ps with
    | nil => simp [PyData.canLayAll0]
    | cons p r ih =>
      have hp : PyData.strOk p.t = true := h p (.head _)
      have := ih fun q hq => h q (.tail _ hq)
      simp [PyData.canLayAll0, PyData.canLay0, Pc.ldat, this, hp]
  have h2 : PyData.depthAll (ps.map Pc.ldat) ≤ 1 := by
    clear h h1
    induction ps with
    | nil => simp [PyData.depthAll]
    | cons p r ih => simp [PyData.depthAll, PyData.depth, Pc.ldat]; omega
  show (PyData.canLay0 (.list (ps.map Pc.ldat)) && decide (PyData.depth (.list (ps.map Pc.ldat)) ≤ 64)) = true
  simp only [PyData.canLay0, PyData.depth, h1, Bool.true_and]
  exact decide_eq_true (by omega)
end
-- Comps
section
open PySem PySem.W PyProof.Rows PySem.Calls PyProof.V PySem.Spec PyProof.Rows.LCg
section
variable {prog : Program} {w : World} {A : Around} {E : Value → Shared → Prop} {s : Shared} {env : Env}

theorem comp_pairs {elt c iter : PySem.Expr} {x x₂ : Str} {px px₂ tp : Pos} {kk : Nat} {scope : Scope} {cl : List (Str × Addr)} {pos : Pos} {ax : Addr} {ps : List Pc} {sel : Pc → Bool} {Q : Value → Shared → Prop}
    (hclos : closureFor scope env = pure cl) (hcell : ∀ y ∈ scope.names, y.2 ≠ .cell) (hkind : scope.kind = .function)
    (hnames : ∀ y ∈ scope.names, y.2 = .local → scope.names.lookup y.1 = some .local) (hx : scope.names.lookup x = some .local) (hx₂ : scope.names.lookup x₂ = some .local) (hxx : x ≠ x₂) (hh : A.handled = none)
    (hs : ∀ x, foldedSetIterable iter env x = pure x)
    (hl : s.heap.IsList ax (ps.map Pc.val).toArray) (hp : ∀ p ∈ ps, s.heap.get? p.a = some p.ent.2) (hsz : ps.length ≤ 1000)
    (hiter : ∀ Q' : Value → Shared → Prop, Q' (.ref ax) s → wpAny (model prog w) A (eval iter env) Q' E s)
    (htest : ∀ (C : Addr) (m₂ : Str → Option Value) (p : Pc) (s' : Shared) (Q' : Bool → Shared → Prop) (E' : Value → Shared → Prop), s'.heap.Ns C m₂ → m₂ x = some (.bool p.b) → m₂ x₂ = some (.str p.t p.k) → (∀ tk, Q' (sel p) { s' with toks := tk }) →
      wpAny (model prog w) A (isTrue c (compEnvC scope cl C env) (eval c (compEnvC scope cl C env))) Q' E' s')
    (helt : ∀ (C : Addr) (m₂ : Str → Option Value) (p : Pc) (s' : Shared) (Q' : Value → Shared → Prop) (E' : Value → Shared → Prop), s'.heap.Ns C m₂ → m₂ x = some (.bool p.b) → m₂ x₂ = some (.str p.t p.k) → (∀ tk, Q' (.str p.t p.k) { s' with toks := tk }) →
      wpAny (model prog w) A (eval elt (compEnvC scope cl C env)) Q' E' s')
    (k : ∀ (D : Addr) h' tk', (∀ b o, s.heap.get? b = some o → h'.get? b = some o) → h'.get? D = some (lst ((ps.filter sel).map fun p => .str p.t p.k)) → s.heap.objs.size ≤ D → Q (.ref D) { s with heap := h', toks := tk' }) :
    wpAny (model prog w) A (eval (.ListComp elt [⟨.Tuple [.Name x px, .Name x₂ px₂] kk tp, iter, [c], 0⟩] scope pos) env) Q E s := by
  rw [eval_ListComp]
  refine wpAny_comprehension_free (use := none) rfl hs hclos hkind hnames (hiter _ ?_)
  have hlt : ax < s.heap.objs.size := by obtain ⟨_, e, _⟩ := hl; exact Heap.lt_size e
  refine wpAny_pyIter_list hl ?_
  generalize hH1 : s.heap.push { cls := .type "list_iterator", data := .fields #[.ref ax, .int 0 0] } = H1
  have hI1 : H1.objs.size = s.heap.objs.size + 1 := by rw [← hH1, Heap.size_push]
  have old1 : ∀ b o, s.heap.get? b = some o → H1.get? b = some o := fun b o e => hH1 ▸ Heap.get?_push_of_some _ e
  have hit1 : H1.IsListIter s.heap.objs.size ax 0 := ⟨_, hH1 ▸ Heap.get?_push_size _ rfl, rfl, rfl⟩
  refine wpAny_newObj_type (wpAny_newFunctionEnv hcell (by intro y hy; simp at hy) (fun h₁ hns₁ hsb₁ => ?_) hkind)
  dsimp only at hns₁ hsb₁ ⊢
  generalize hH2 : H1.push { cls := .type "list", dict := none, data := .seq ([] : List Value).toArray } = H2 at hns₁ hsb₁ ⊢
  have hC : H2.objs.size = H1.objs.size + 1 := by rw [← hH2, Heap.size_push]
  have neC : ∀ b, b < H2.objs.size → b ≠ H2.objs.size := fun b hb => Nat.ne_of_lt hb
  have old2 : ∀ b o, H1.get? b = some o → h₁.get? b = some o := fun b o e => hsb₁.extBut b o (neC b (by rw [hC]; exact Nat.lt_succ_of_lt (Heap.lt_size e))) (Heap.get?_push_of_some _ (hH2 ▸ Heap.get?_push_of_some _ e))
  have hD1 : h₁.get? H1.objs.size = some (lst []) := hsb₁.extBut _ _ (neC _ (by rw [hC]; exact Nat.lt_succ_self _)) (Heap.get?_push_of_some _ (hH2 ▸ Heap.get?_push_size _ rfl))
  have W := Walks.list (prog := prog) (w := w) hh s.heap.objs.size ax (Nat.ne_of_lt hlt) (ps.map Pc.val).toArray
  have hn : (ps.map Pc.val).toArray.size = ps.length := by simp
  rw [hn] at W
  have hIC : s.heap.objs.size ≠ H2.objs.size := neC _ (by rw [hC, hI1]; exact Nat.lt_succ_of_lt (Nat.lt_succ_self _))
  have hDC : H1.objs.size ≠ H2.objs.size := neC _ (by rw [hC]; exact Nat.lt_succ_self _)
  have hID : s.heap.objs.size ≠ H1.objs.size := by rw [hI1]; exact Nat.ne_of_lt (Nat.lt_succ_self _)
  have oldC : ∀ b o, s.heap.get? b = some o → b ≠ H2.objs.size := fun b o e => neC b (by rw [hC, hI1]; exact Nat.lt_succ_of_lt (Nat.lt_succ_of_lt (Heap.lt_size e)))
  have oldD : ∀ b o, s.heap.get? b = some o → b ≠ H1.objs.size := fun b o e => Nat.ne_of_lt (by rw [hI1]; exact Nat.lt_succ_of_lt (Heap.lt_size e))
  have oldI : ∀ b o, s.heap.get? b = some o → b ≠ s.heap.objs.size := fun b o e => Nat.ne_of_lt (Heap.lt_size e)
  have loop : ∀ s₃ : Shared, s₃ = { s with heap := h₁, toks := s.toks + ([] : List (Str × Value)).length } →
      codeAny (model prog w) A (.compLoop (.ListComp elt [⟨.Tuple [.Name x px, .Name x₂ px₂] kk tp, iter, [c], 0⟩] scope pos) 0 (.ref s.heap.objs.size) (.ref H1.objs.size) (compEnvC scope cl H2.objs.size env))
        (compPost (model prog w) A E none Q (.ref H1.objs.size) H2.objs.size) s₃ := by
    rintro s₃ rfl
    refine kct_loop
      (fun j s' => ∃ h' tk i m', s' = { s with heap := h', toks := tk } ∧ i ≤ ps.length ∧ j = ps.length + 1 - i ∧ (h'.IsListIter s.heap.objs.size ax i ∧ h'.IsList ax (ps.map Pc.val).toArray) ∧ h'.Ns H2.objs.size m' ∧
        h'.get? H1.objs.size = some (lst (((ps.take i).filter sel).map fun p => .str p.t p.k)) ∧ ∀ b o, s.heap.get? b = some o → h'.get? b = some o) ?_ (ps.length + 1)
      ⟨h₁, _, 0, _, rfl, Nat.zero_le _, rfl, ⟨hit1.at fun o e => old2 _ o e, hl.at fun o e => old2 _ o (old1 _ o e)⟩, hns₁, hD1, fun b o e => old2 b o (old1 b o e)⟩
    rintro j s' ⟨h', tk, i, m', rfl, hi, rfl, hst', hn', hD', hk'⟩
    by_cases hlt' : i < ps.length
    · refine W.item i _ _ _ hlt' hst' fun v h₂ tk₂ hPv hst₂ hk₂ => ?_
      have hv : v = (ps[i]).val := by
        have h5 : (ps.map Pc.val).toArray[i]? = some v := hPv
        simpa [hlt'] using h5.symm
      subst hv
      have hpm : ps[i] ∈ ps := List.getElem_mem hlt'
      generalize hpe : ps[i] = p at hpm ⊢
      have old₂ : ∀ b o, s.heap.get? b = some o → h₂.get? b = some o := fun b o e => hk₂ b o (by simpa using oldI b o e) (hk' b o e)
      refine wpAny_letOwnedTupleGo_listiter hst₂.1 ?_
      refine assign_Tuple_tuple hh (items := [.bool p.b, .str p.t p.k].toArray) ⟨_, old₂ _ _ (hp p hpm), rfl, _, rfl⟩ rfl rfl fun h₅ he => ?_
      have he' : ∀ b o, h₂.get? b = some o → h₅.get? b = some o := fun b o e => he b o (Nat.ne_of_lt (Heap.lt_size e)) e
      have hns₅ : h₅.Ns H2.objs.size m' := (hn'.at' fun o e => hk₂ _ o (by simpa using Ne.symm hIC) e).at' fun o e => he' _ o e
      refine assignInOrder_cons (wpAny_assign_Name (wpAny_storeName_local (lookup_relabel_local hx) hns₅ (fun h₆ hn₆ hs₆ => ?_) (by simp [compEnvC, relabel, hkind])))
      refine assignInOrder_cons (wpAny_assign_Name (wpAny_storeName_local (lookup_relabel_local hx₂) hn₆ (fun h₃ hn₃ hs₃ => ?_) (by simp [compEnvC, relabel, hkind])))
      refine assignInOrder_nil ?_
      have old3 : ∀ b o, b ≠ H2.objs.size → h₂.get? b = some o → h₃.get? b = some o := fun b o hb e => hs₃.extBut b o hb (hs₆.extBut b o hb (he' b o e))
      have old₃ : ∀ b o, s.heap.get? b = some o → h₃.get? b = some o := fun b o e => old3 b o (oldC b o e) (old₂ b o e)
      have hD₂ : h₂.get? H1.objs.size = some (lst (((ps.take i).filter sel).map fun p => .str p.t p.k)) := hk₂ _ _ (by simpa using Ne.symm hID) hD'
      have hD₃ := old3 _ _ hDC hD₂
      have hst₃ : h₃.IsListIter s.heap.objs.size ax (i + 1) ∧ h₃.IsList ax (ps.map Pc.val).toArray := ⟨hst₂.1.at fun o e => old3 _ o hIC e, hst₂.2.at fun o e => old3 _ o (Nat.ne_of_lt (Nat.lt_trans hlt (by rw [hC, hI1]; exact Nat.lt_succ_of_lt (Nat.lt_succ_self _)))) e⟩
      have m1 : (fun y => if y = x₂ then some (Value.str p.t p.k) else if y = x then some (Value.bool p.b) else m' y) x = some (.bool p.b) := by simp [hxx]
      have m2 : (fun y => if y = x₂ then some (Value.str p.t p.k) else if y = x then some (Value.bool p.b) else m' y) x₂ = some (.str p.t p.k) := by simp
      have tk9 : (ps.take (i + 1)) = ps.take i ++ [p] := by rw [List.take_add_one, List.getElem?_eq_getElem hlt', hpe]; rfl
      refine htest H2.objs.size _ p _ _ _ hn₃ m1 m2 fun tkt => ?_
      cases hsel : sel p with
      | true =>
        rw [if_pos rfl]
        refine helt H2.objs.size _ p _ _ _ hn₃ m1 m2 fun tke => ?_
        refine append_at (hsz := by rw [List.size_toArray, List.length_map, PySem.sizeLine_eq]; have := List.length_filter_le sel (ps.take i); have := List.length_take_le i ps; omega) hD₃ fun h₇ hs₇ hD₇ => ?_
        refine ⟨ps.length + 1 - (i + 1), by omega, h₇, _, i + 1, _, rfl, hlt', rfl, ⟨hst₃.1.at fun o e => hs₇.extBut _ o hID e, hst₃.2.at fun o e => hs₇.extBut _ o (Nat.ne_of_lt (by rw [hI1]; exact Nat.lt_succ_of_lt hlt)) e⟩, hn₃.sameBut hs₇ (Ne.symm hDC), ?_, fun b o e => hs₇.extBut b o (oldD b o e) (old₃ b o e)⟩
        rw [tk9, List.filter_append, List.filter_cons_of_pos hsel, List.filter_nil, List.map_append]
        exact hD₇.trans (congrArg some (lst_snoc _ _))
      | false =>
        rw [if_neg Bool.false_ne_true]
        refine ⟨ps.length + 1 - (i + 1), by omega, h₃, _, i + 1, _, rfl, hlt', rfl, hst₃, hn₃, ?_, old₃⟩
        rw [tk9, List.filter_append, List.filter_cons_of_neg (by rw [hsel]; exact Bool.false_ne_true), List.filter_nil, List.append_nil]
        exact hD₃
    · obtain rfl : i = ps.length := Nat.le_antisymm hi (Nat.not_lt.mp hlt')
      refine W.done _ _ _ hst' fun h₂ tk₂ hk₂ => ?_
      refine ⟨m', hn'.at' fun o e => hk₂ _ o (by simpa using Ne.symm hIC) e, fun h'' hs'' => k _ h'' _ (fun b o e => hs''.extBut b o (oldC b o e) (hk₂ b o (by simpa using oldI b o e) (hk' b o e))) ?_ (by rw [hI1]; exact Nat.le_succ _)⟩
      rw [List.take_length] at hD'
      exact hs''.extBut _ _ hDC (hk₂ _ _ (by simpa using Ne.symm hID) hD')
  exact codeAny_compStart_list (loop _ rfl) (W.self 0 _ _ _ ⟨hit1.at fun o e => old2 _ o e, hl.at fun o e => old2 _ o (old1 _ o e)⟩ (loop _ rfl))
end
end
-- TTake
section
local macro_rules | `(tactic| k_room) => `(tactic| ktr_room)
local macro_rules | `(tactic| k_units) => `(tactic| ktr_units)
set_option maxHeartbeats 4000000 in
theorem take_spec (w : World) (l : Addr) (x y top : Int) (tx ty tt n : Nat) (hx : 0 ≤ x) (hy0 : 0 ≤ y) (hy : y < 2147483647) (htop : 0 < top) (htop2 : top ≤ 1000000) :
    Spec w 96 [.ref l,   .int top tt] (fun _ => True) [(l, listOf [.int x tx, .int y ty].toArray n)] 2 (fun g h' v => ∃ r t x' tx' y' ty' n', v = .int r t ∧ 0 ≤ r ∧ r < top ∧ 0 ≤ x' ∧ 0 ≤ y' ∧ y' < 2147483647 ∧ h'.get? l = some (listOf [.int x' tx', .int y' ty'].toArray n')) := by
  unfold Spec
  k_fill
  intro mg mb mean dp un gd base g env outer s B X T hk hz hpre ht hd hu
  k_dflt (refine' enter B X T hk hz ht ?k6 ?k7 ?k8 ?k9 ?kB ?_ ?c2 ?c3 ?c4 ?c5; (case k6 => k_is); (case k7 => k_is); (case k8 => ktr_room); (case k9 => exact BindsTo.of_eq rfl); (case c5 => decide); (case kB => exact locs rfl); (case c2 => exact rfl); (case c3 => exact rfl); (case c4 => exact rfl); k_whole; intro L' h' F' N' l1; (try k_lt l1); (try dsimp only); (try k_fold))
  clear hk hz ht
  k_steps
  · dsimp only at *
    (rename Fr _ _ _ _ => F9); (rename News _ _ _ _ => N9)
    refine After.intro F9 ⟨_, _, _, _, _, _, _, rfl, fm_0 _ _ htop, fm_lt _ _ htop, fd_0 _ _ hx htop, hy0, hy, (N9.get (by k_mem))⟩
  · dsimp only [getD_o]
    refine mul_small (fm_0 _ _ (by decide)) (Int.lt_trans (fm_lt _ _ (by decide)) (by decide)) ?_
    k_steps
    dsimp only at *
    (rename Fr _ _ _ _ => F9); (rename News _ _ _ _ => N9)
    refine After.intro F9 ⟨_, _, _, _, _, _, _, rfl, fm_0 _ _ htop, fm_lt _ _ htop, hx, fm_0 _ _ (by decide), fm_lt _ _ (by decide), (N9.get (by k_mem))⟩
end
section
local macro_rules | `(tactic| k_room) => `(tactic| ktr_room)
local macro_rules | `(tactic| k_units) => `(tactic| ktr_units)
local macro_rules | `(tactic| walk_at "eval Name") => `(tactic| (k_here; k_dflt (refine' nameX_L ?F ?v ?_ ?a ?b; (case F => k_asm); (case a => rfl); (case b => rfl); (case v => assumption); k_whole)))
local macro_rules | `(tactic| walk_at "pyIter str") => `(tactic| (refine Hold.out ?_))
local macro_rules | `(tactic| walk_at "exec For Name Name cons nil") => `(tactic| (k_here; (rename Fr _ _ _ _ => lF'); (with_unfolding_all refine' For_invVF lF' ?k1 ?k2 ?_; (case k1 => exact rfl); (case k2 => exact rfl); k_whole)))
local macro_rules | `(tactic| walk_at "exec While Compare cons nil") => `(tactic| (refine Hold.out ?_))
local macro_rules | `(tactic| walk_at "loadName") => `(tactic| (k_here; k_dflt (refine' ldn ?F ?v ?_ ?a ?b; (case F => k_asm); (case a => rfl); (case b => rfl); (case v => first | rfl | assumption); k_whole)))
-- TCounted
section
def countF (cs : List Nat) : Int := cs.foldl (fun (a : Int) (c : Nat) => 26 * a + ((c : Int) - 96)) 0
def Low (x : Str) : Prop := ∀ c ∈ x.cps.toList, 97 ≤ c ∧ c ≤ 122
theorem find_az {c : Nat} (h : 97 ≤ c ∧ c ≤ 122) : Txt.find (Str.ofString "abcdefghijklmnopqrstuvwxyz") ⟨[c].toArray⟩ = (c : Int) - 97 := by
  have hd : ∀ n : Nat, n < 26 → Txt.find (Str.ofString "abcdefghijklmnopqrstuvwxyz") ⟨[97 + n].toArray⟩ = (n : Int) := by decide +kernel
  have := hd (c - 97) (by omega)
  rw [show 97 + (c - 97) = c by omega] at this
  rw [this]; omega
theorem countF_snoc (l : List Nat) (c : Nat) : countF (l ++ [c]) = 26 * countF l + ((c : Int) - 96) := by simp [countF, List.foldl_append]
theorem take_snoc {k : Str} {i c : Nat} (hc : k.cps[i]? = some c) : k.cps.toList.take (i + 1) = k.cps.toList.take i ++ [c] := by
  have h : k.cps.toList[i]? = some c := by simpa using hc
  rw [List.take_add_one, h]; rfl
set_option maxHeartbeats 4000000 in
theorem counted_spec (w : World) (k : Str) (t : Nat) (hk : Low k) : Spec w 117 [.str k t] (fun _ => True) [] 1 (fun _ _ v => ∃ t, v = .int (countF k.cps.toList) t) := by
  unfold Spec
  k_fill
  intro mg mb mean dp un gd base g env outer s B X T hk hz hpre ht hd hu
  k_dflt (refine' enter B X T hk hz ht ?k6 ?k7 ?k8 ?k9 ?kB ?_ ?c2 ?c3 ?c4 ?c5; (case k6 => k_is); (case k7 => k_is); (case k8 => ktr_room); (case k9 => exact BindsTo.of_eq rfl); (case c5 => decide); (case kB => exact locs rfl); (case c2 => exact rfl); (case c3 => exact rfl); (case c4 => exact rfl); k_whole; intro L' h' F' N' l1; (try k_lt l1); (try dsimp only); (try k_fold))
  clear hk hz ht
  k_steps
  refine Hold.mk ?_
  (rename Fr _ _ _ _ => F9); (rename News _ _ _ _ => N9)
  with_unfolding_all refine iter_str (fun i m nx => nx = [] ∧ ∃ t, m "found" = some (.int (countF (k.cps.toList.take i)) t)) rfl F9 N9 ⟨rfl, _, rfl⟩ ?_ ?_
  · rintro i c tc m₁ nx h tk I oI hc ⟨rfl, t1, hfound⟩ F1 N1 hn1
    clear F9 N9
    have hc9 : 97 ≤ c ∧ c ≤ 122 := hk c (by rw [Array.mem_toList_iff]; exact Array.mem_of_getElem? hc)
    (try k_fold)
    k_steps
    · exfalso
      (rename Txt.find _ _ + 1 = 0 => h9)
      rw [find_az hc9] at h9
      omega
    · (rename Fr _ _ _ _ => F9); (rename News _ _ _ _ => N9)
      have e : 26 * countF (k.cps.toList.take i) + (Txt.find (Str.ofString "abcdefghijklmnopqrstuvwxyz") ⟨[c].toArray⟩ + 1) = countF (k.cps.toList.take (i + 1)) := by
        rw [find_az hc9, take_snoc hc, countF_snoc, show (c : Int) - 97 + 1 = c - 96 by omega]
      exact TurnPost.next F9 N9 hn1 ⟨rfl, _, congrArg (fun z => some (Value.int z _)) e⟩
  · rintro m₁ nx h tk ⟨rfl, t1, hfound⟩ F1 N1
    clear F9 N9
    k_steps
    exact After.intro F1 ⟨t1, by rw [← Array.length_toList, List.take_length]⟩
end
-- TLetters
section
local macro_rules | `(tactic| walk_at "idle") => `(tactic| skip)
theorem count_from (l : List Nat) : ∀ z : Int, l.foldl (fun (a : Int) (c : Nat) => 26 * a + ((c : Int) - 96)) z = z * 26 ^ l.length + countF l := by
  induction l with
  | nil => intro z; simp [countF]
  | cons c r ih =>
    intro z
    have h2 : countF (c :: r) = ((c : Int) - 96) * 26 ^ r.length + countF r := by
      show r.foldl _ (26 * 0 + ((c : Int) - 96)) = _
      rw [ih]; simp
    rw [List.foldl_cons, ih, h2, List.length_cons, Int.pow_succ]
    grind
theorem countF_cons (c : Nat) (r : List Nat) : countF (c :: r) = ((c : Int) - 96) * 26 ^ r.length + countF r := by
  show r.foldl _ (26 * 0 + ((c : Int) - 96)) = _
  rw [count_from]; simp
structure LInv (k a : Int) (f : Str) : Prop where
  low : Low f
  val : (0 ≤ a ∧ a * 26 ^ f.length + countF f.cps.toList = k) ∨ (a = k ∧ k ≤ 0 ∧ f.cps.toList = [])
  len : f.length ≤ 64
  big : a * 2 ^ f.length < 2 ^ 64
theorem LInv.lt {k a : Int} {f : Str} (h : LInv k a f) (ha : 0 < a) : f.length < 64 := by
  rcases Nat.lt_or_ge f.length 64 with h1 | h1
  · exact h1
  · exfalso
    have h2 : f.length = 64 := Nat.le_antisymm h.len h1
    have h3 := h.big
    rw [h2] at h3
    have : (1 : Int) * 2 ^ 64 ≤ a * 2 ^ 64 := Int.mul_le_mul_of_nonneg_right (by omega) (by decide)
    omega
theorem LInv.step {k a : Int} {f : Str} (h : LInv k a f) (ha : 0 < a) : LInv k (Int.fdiv (a - 1) 26) (⟨#[(97 + Int.fmod (a - 1) 26).toNat]⟩ ++ f) := by
  rw [Int.fdiv_eq_ediv_of_nonneg _ (by decide), Int.fmod_eq_emod_of_nonneg _ (by decide)]
  have h1 := h.lt ha
  have hl : ((⟨#[(97 + (a - 1) % 26).toNat]⟩ ++ f : Str)).length = f.length + 1 := by rw [Str.length_append]; show 1 + f.length = _; omega
  have hc : ((⟨#[(97 + (a - 1) % 26).toNat]⟩ ++ f : Str)).cps.toList = (97 + (a - 1) % 26).toNat :: f.cps.toList := by
    rw [Str.cps_append, Array.toList_append]
    rfl
  have hv : 0 ≤ a ∧ a * 26 ^ f.length + countF f.cps.toList = k := h.val.resolve_right fun e => by omega
  refine ⟨?_, .inl ⟨by omega, ?_⟩, by omega, ?_⟩
  · intro c hm
    rw [hc] at hm
    rcases List.mem_cons.mp hm with rfl | hm
    · omega
    · exact h.low c hm
  · have hfl : f.cps.toList.length = f.length := Array.length_toList
    rw [hc, countF_cons, hl, hfl, Int.toNat_of_nonneg (by omega), ← hv.2, Int.pow_succ]
    have e : a = 26 * ((a - 1) / 26) + (a - 1) % 26 + 1 := by omega
    generalize (26 : Int) ^ f.length = p
    generalize (a - 1) / 26 = q at *
    generalize (a - 1) % 26 = r at *
    rw [e]
    grind
  · rw [hl, Int.pow_succ]
    have h2 := h.big
    have h4 : ((a - 1) / 26) * 2 ≤ a := by omega
    have h5 : (0 : Int) ≤ 2 ^ f.length := Int.le_of_lt (Int.pow_pos (by decide))
    have h3 : ((a - 1) / 26) * 2 * 2 ^ f.length ≤ a * 2 ^ f.length := Int.mul_le_mul_of_nonneg_right h4 h5
    generalize (2 : Int) ^ f.length = p at *
    grind
set_option maxHeartbeats 4000000 in
theorem letters_spec (w : World) (k : Int) (t : Nat) (hk1 : k < 2 ^ 64) : Spec w 42 [.int k t] (fun _ => True) [] 1 (fun _ _ v => ∃ x t, v = .str x t ∧ Low x ∧ countF x.cps.toList = max 0 k) := by
  unfold Spec
  k_fill
  intro mg mb mean dp un gd base g env outer s B X T hk hz hpre ht hd hu
  k_dflt (refine' enter B X T hk hz ht ?k6 ?k7 ?k8 ?k9 ?kB ?_ ?c2 ?c3 ?c4 ?c5; (case k6 => k_is); (case k7 => k_is); (case k8 => ktr_room); (case k9 => exact BindsTo.of_eq rfl); (case c5 => decide); (case kB => exact locs rfl); (case c2 => exact rfl); (case c3 => exact rfl); (case c4 => exact rfl); k_whole; intro L' h' F' N' l1; (try k_lt l1); (try dsimp only); (try k_fold))
  clear hk hz ht
  k_steps
  refine Hold.mk ?_
  (rename Fr _ _ _ _ => F9); (rename News _ _ _ _ => N9)
  with_unfolding_all refine while_F (fun n s' => ∃ (a : Int) (f : Str) (ta tf : Tok) (h : Heap) (tk : Nat) (m : Str → Option Value), s' = { s with heap := h, toks := tk } ∧ n = a.toNat ∧ Fr g L' h m ∧ News g L' h [] ∧ m "number" = some (.int a ta) ∧ m "found" = some (.str f tf) ∧ LInv k a f) ?turn k.toNat ?start
  case start =>
    refine ⟨k, _, _, _, _, _, _, rfl, rfl, F9, N9, rfl, rfl, ⟨fun c h => (nomatch h), ?_, by decide, by show k * 1 < _; omega⟩⟩
    rcases Int.lt_or_le 0 k with h | h
    · exact .inl ⟨Int.le_of_lt h, by show k * 1 + 0 = k; omega⟩
    · exact .inr ⟨rfl, h, rfl⟩
  case turn =>
    rintro n s' ⟨a, f, ta, tf, h, tk, m, rfl, rfl, F1, N1, hnumber, hfound, hinv⟩
    clear F9 N9
    have hlen := hinv.len
    (try k_fold)
    k_steps
    · (rename 0 < a => ha9); (rename Fr _ _ _ _ => F9); (rename News _ _ _ _ => N9)
      refine ⟨(Int.fdiv (a - 1) 26).toNat, ?_, _, _, _, _, _, _, _, rfl, rfl, F9, N9, rfl, rfl, hinv.step ha9⟩
      rw [Int.fdiv_eq_ediv_of_nonneg _ (by decide)]
      omega
    · (rename ¬ 0 < a => ha9)
      refine After.intro F1 ⟨f, tf, rfl, hinv.low, ?_⟩
      rcases hinv.val with ⟨h1, h2⟩ | ⟨h1, h2, h3⟩
      · obtain rfl : a = 0 := by omega
        rw [← h2]
        have h0 : (0 : Int) ≤ countF f.cps.toList := by
          have : ∀ l : List Nat, (∀ c ∈ l, 97 ≤ c ∧ c ≤ 122) → (0 : Int) ≤ countF l := by
            intro l
            induction l with
            | nil => intro _; decide
            | cons c r ih =>
              intro hl
              rw [countF_cons]
              have := ih fun c hc => hl c (.tail _ hc)
              have h9 := hl c (.head _)
              have : (0 : Int) ≤ ((c : Int) - 96) * 26 ^ r.length := Int.mul_nonneg (by omega) (Int.le_of_lt (Int.pow_pos (by decide)))
              omega
          exact this _ hinv.low
        omega
      · rw [h3]; show (0 : Int) = _; omega
end
-- TRomanW
section
def nthS (l : List Stmt) (n : Nat) : Stmt := (l.drop n).headD (.Pass ⟨0, 0, 0, 0⟩)
def bodyOf : Stmt → List Stmt
  | .FunctionDef _ _ b _ _ _ _ _ _ _ => b
  | .For _ _ b _ _ => b
  | _ => []
def scopeOf : Stmt → Scope
  | .FunctionDef _ _ _ _ _ _ sc _ _ _ => sc
  | _ => { kind := .function, names := [], isGenerator := false, isCoroutine := false, more := [] }
def romanDef : Stmt := nthS PySem.Challenge.pw_xm0631_01.main.body 2
def romanWhile : Stmt := nthS (bodyOf (nthS (bodyOf romanDef) 1)) 0
def romanScope : Scope := scopeOf romanDef

def rep : Nat → Str → Str
  | 0, _ => Str.empty
  | n + 1, x => rep n x ++ x
theorem rep_length (n : Nat) (x : Str) : (rep n x).length = n * x.length := by
  induction n with
  | zero => simp [rep]; rfl
  | succ n ih => rw [rep, Str.length_append, ih, Nat.succ_mul]
def rq (a W : Int) : Nat := if W ≤ a then (a / W).toNat else 0
def rNum (a W : Int) : Int := a - (rq a W : Int) * W
def rFound (a W : Int) (f x : Str) : Str := f ++ rep (rq a W) x
theorem rq_of {a a' W : Int} {j : Nat} (hW : 0 < W) (e : a = a' + (j : Int) * W) (h : j = 0 ∨ 0 ≤ a') (lt : a' < W) : rq a W = j := by
  unfold rq
  split
  · rename_i hle
    have h0 : 0 ≤ a' := by
      rcases h with rfl | h
      · simp at e; omega
      · exact h
    rw [e, Int.add_mul_ediv_right _ _ (by omega), Int.ediv_eq_zero_of_lt h0 lt]
    omega
  · rename_i hlt
    rcases h with rfl | h
    · rfl
    · by_cases hj : j = 0
      · exact hj.symm
      · exfalso
        have : (1 : Int) * W ≤ (j : Int) * W := Int.mul_le_mul_of_nonneg_right (by omega) (by omega)
        omega
structure RInv (a : Int) (f : Str) (W : Int) (x : Str) (a' : Int) (f' : Str) : Prop where
  j : ∃ j : Nat, a = a' + (j : Int) * W ∧ (j = 0 ∨ 0 ≤ a') ∧ f' = f ++ rep j x
  len : f'.length + 2 * a'.toNat ≤ f.length + 2 * a.toNat
theorem RInv.step {a : Int} {f : Str} {W : Int} {x : Str} {a' : Int} {f' : Str} (h : RInv a f W x a' f') (hW : 0 < W) (hx : x.length ≤ 2) (ge : W ≤ a') : RInv a f W x (a' - W) (f' ++ x) := by
  obtain ⟨⟨j, e, _, e2⟩, hl⟩ := h
  refine ⟨⟨j + 1, ?_, .inr (by omega), ?_⟩, ?_⟩
  · rw [e, Int.natCast_succ, Int.add_mul]; omega
  · rw [e2, rep, Str.append_assoc]
  · rw [Str.length_append]; omega
theorem RInv.done {a : Int} {f : Str} {W : Int} {x : Str} {a' : Int} {f' : Str} (h : RInv a f W x a' f') (hW : 0 < W) (lt : ¬ W ≤ a') : a' = rNum a W ∧ f' = rFound a W f x := by
  obtain ⟨⟨j, e, h0, e2⟩, _⟩ := h
  have := rq_of hW e h0 (by omega)
  refine ⟨?_, ?_⟩
  · unfold rNum; rw [this]; omega
  · unfold rFound; rw [this]; exact e2
set_option maxHeartbeats 4000000 in
theorem roman_while {w : World} {A : Around} {g : Heap} {L : Addr} {news : List (Addr × Obj)} {m : Str → Option Value} {s : Shared} {a W : Int} {f x : Str} {ta tf tw tx : Tok} {Q : Flow → Shared → Prop} (hh : A.handled = none) (X : (Mine.hd.heap_39 w.params).In g)
    (F : Fr g L s.heap m) (N : News g L s.heap news) (h1 : m "number" = some (.int a ta)) (h2 : m "found" = some (.str f tf)) (h3 : m "worth" = some (.int W tw)) (h4 : m "signs" = some (.str x tx)) (hW : 0 < W) (hx : x.length ≤ 2) (hsz : f.length + 2 * a.toNat ≤ 100000)
    (k : ∀ h' tk' t1 t2 a' f', a' = rNum a W → f' = rFound a W f x → Fr g L h' (fun y => if y = "number" then some (.int a' t1) else if y = "found" then some (.str f' t2) else m y) → News g L h' news → f'.length + 2 * a'.toNat ≤ f.length + 2 * a.toNat → Q .next { s with heap := h', toks := tk' }) :
    wpAny (model PySem.Challenge.rw_xm0631_01.row.prog w) (A.deeper (envOf "roman" romanScope L 35 (.ref 34))) (exec romanWhile (envOf "roman" romanScope L 35 (.ref 34))) Q (fun _ _ => False) s := by
  k_fill
  with_unfolding_all refine while_F (fun n s' => ∃ (a' : Int) (f' : Str) (t1 t2 : Tok) (h : Heap) (tk : Nat) (m' : Str → Option Value), s' = { s with heap := h, toks := tk } ∧ n = a'.toNat ∧ Fr g L h m' ∧ News g L h news ∧ RInv a f W x a' f' ∧ m' "number" = some (.int a' t1) ∧ m' "found" = some (.str f' t2) ∧ (∀ y : Str, y ≠ "number" → y ≠ "found" → m' y = m y)) ?turn a.toNat ?start
  case start => exact ⟨a, f, ta, tf, _, _, m, rfl, rfl, F, N, ⟨⟨0, by simp, .inl rfl, (Str.append_empty f).symm⟩, Nat.le_refl _⟩, h1, h2, fun _ _ _ => rfl⟩
  case turn =>
    rintro n s' ⟨a', f', t1, t2, h, tk, m', rfl, rfl, F1, N1, hinv, hnumber, hfound, hrest⟩
    clear F N
    have hworth : m' "worth" = some (.int W tw) := (hrest _ (by decide) (by decide)).trans h3
    have hsigns : m' "signs" = some (.str x tx) := (hrest _ (by decide) (by decide)).trans h4
    have hlen := hinv.len
    (try k_fold)
    k_steps
    · (rename W ≤ a' => ha9); (rename Fr _ _ _ _ => F9); (rename News _ _ _ _ => N9)
      refine ⟨(a' - W).toNat, by omega, _, _, _, _, _, _, _, rfl, rfl, F9, N9, hinv.step hW hx ha9, rfl, rfl, fun y n1 n2 => ?_⟩
      dsimp only
      rw [if_neg n1, if_neg n2]
      exact hrest y n1 n2
    · (rename ¬ W ≤ a' => ha9)
      obtain ⟨e1, e2⟩ := hinv.done hW ha9
      refine k _ _ t1 t2 a' f' e1 e2 ?_ N1 hlen
      have em : m' = (fun y : Str => if y = "number" then some (.int a' t1) else if y = "found" then some (.str f' t2) else m y) := by
        funext y
        by_cases n1 : y = "number"
        · rw [if_pos n1, n1]; exact hnumber
        · by_cases n2 : y = "found"
          · rw [if_neg n1, if_pos n2, n2]; exact hfound
          · rw [if_neg n1, if_neg n2]; exact hrest y n1 n2
      rw [← em]; exact F1
end
-- TRoman
section
local macro_rules | `(tactic| walk_at "ItemsRest") => `(tactic| (refine Hold.out ?_))
def targetOf : Stmt → Expr
  | .For t _ _ _ _ => t
  | _ => .Name "" ⟨0, 0, 0, 0⟩
def romanFor : Stmt := nthS (bodyOf romanDef) 1
def romStep (s : Int × Str) (r : Int × Str) : Int × Str := (rNum s.1 r.1, rFound s.1 r.1 s.2 r.2)
structure RPair (g : Heap) (r : Addr × Int × Str) : Prop where
  obj : ∃ o t1 t2 n, g.get? r.1 = some o ∧ o.cls = .type "tuple" ∧ o.data = .seq [.int r.2.1 t1, .str r.2.2 t2].toArray n
  pos : 0 < r.2.1
  len : r.2.2.length ≤ 2
set_option maxHeartbeats 4000000 in
theorem roman_items {w : World} {A : Around} {g : Heap} {L I : Addr} {s : Shared} {Q : Flow → Shared → Prop} (hh : A.handled = none) (X : (Mine.hd.heap_39 w.params).In g) :
    ∀ (rs : List (Addr × Int × Str)) (m : Str → Option Value) (a : Int) (f : Str) (ta tf : Tok), (∀ r ∈ rs, RPair g r) → m "number" = some (.int a ta) → m "found" = some (.str f tf) → f.length + 2 * a.toNat ≤ 100000 →
    (∀ h tk m' t, Fr g L h m' → News g L h [] → m' "found" = some (.str ((rs.map (·.2)).foldl romStep (a, f)).2 t) → Q .next { s with heap := h, toks := tk }) →
    ItemsRest PySem.Challenge.rw_xm0631_01.row.prog w (A.deeper (envOf "roman" romanScope L 35 (.ref 34))) (fun _ _ => False) g (envOf "roman" romanScope L 35 (.ref 34)) (targetOf romanFor) (bodyOf romanFor) Q s [(I, "tuple_iterator")] [] (rs.map fun r => .val (.ref r.1)) m [] := by
  intro rs
  induction rs with
  | nil => exact fun m a f ta tf _ _ hf _ k => ItemsRest.zero fun h tk F N => k h tk m tf F N hf
  | cons r rs ih =>
    intro m a f ta tf hrs hnumber hfound hsz k
    refine ItemsRest.val fun h tk F => AllObj.cons fun oI hoI => AllObj.nil fun N => ?_
    obtain ⟨o, t1, t2, n, ho, hoc, hod⟩ := (hrs r (.head _)).obj
    have hpos := (hrs r (.head _)).pos
    have hlen2 := (hrs r (.head _)).len
    have hrs' : ∀ q ∈ rs, RPair g q := fun q hq => hrs q (.tail _ hq)
    with_unfolding_all refine unpackN_ F N ⟨o, F.keep _ _ ho, hoc, n, hod⟩ hh rfl rfl fun h' F' N' => ?_
    clear F N
    k_fill
    (try k_fold)
    k_steps
    refine Hold.mk ?_
    (rename Fr _ _ _ _ => lF9); (rename News _ _ _ _ => lN9)
    (with_unfolding_all refine' roman_while ?hh ?X lF9 lN9 ?h1 ?h2 ?h3 ?h4 ?hW ?hx ?hsz ?_; (case hh => first | rfl | assumption); (case X => k_asm); (case h1 | h2 => first | rfl | assumption); (case h3 | h4 => rfl); (case hW | hx => assumption); (case hsz => omega))
    intro h9 tk9 u1 u2 a9 f9 ea9 ef9 F9 N9 hl9
    clear lF9 lN9
    k_steps
    refine Hold.mk (ih _ a9 f9 _ _ hrs' rfl rfl (by omega) fun h tk m' t F N e => k h tk m' t F N ?_)
    rw [e, ea9, ef9]
    rfl
def romans : List (Addr × Int × Str) := [(15, 1000, "m"), (16, 900, "cm"), (17, 500, "d"), (18, 400, "cd"), (19, 100, "c"), (20, 90, "xc"), (21, 50, "l"), (22, 40, "xl"), (23, 10, "x"), (24, 9, "ix"), (25, 5, "v"), (26, 4, "iv"), (27, 1, "i")]
def romanF (k : Int) : Str := ((romans.map (·.2)).foldl romStep (k, Str.ofString "")).2
set_option maxHeartbeats 4000000 in
theorem roman_spec (w : World) (k : Int) (t : Nat) (hk1 : k < 40000) : Spec w 35 [.int k t] (fun _ => True) [] 1 (fun _ _ v => ∃ t, v = .str (romanF k) t) := by
  unfold Spec
  k_fill
  intro mg mb mean dp un gd base g env outer s B X T hk hz hpre ht hd hu
  k_dflt (refine' enter B X T hk hz ht ?k6 ?k7 ?k8 ?k9 ?kB ?_ ?c2 ?c3 ?c4 ?c5; (case k6 => k_is); (case k7 => k_is); (case k8 => ktr_room); (case k9 => exact BindsTo.of_eq rfl); (case c5 => decide); (case kB => exact locs rfl); (case c2 => exact rfl); (case c3 => exact rfl); (case c4 => exact rfl); k_whole; intro L' h' F' N' l1; (try k_lt l1); (try dsimp only); (try k_fold))
  clear hk hz ht
  k_steps
  refine Hold.mk ?_
  have hp : ∀ r ∈ romans, RPair g r := by
    intro r hr
    simp only [romans, List.mem_cons, List.not_mem_nil, or_false] at hr
    rcases hr with rfl | rfl | rfl | rfl | rfl | rfl | rfl | rfl | rfl | rfl | rfl | rfl | rfl <;> exact ⟨⟨_, _, _, _, X _ _ (by k_is), rfl, rfl⟩, by decide, by decide⟩
  with_unfolding_all refine roman_items rfl X romans _ k _ _ _ hp rfl rfl (by have h0 : (Str.ofString "").length = 0 := rfl; omega) fun h tk m' t F9 N9 e9 => ?_
  (try k_fold)
  k_steps
  exact After.intro F9 ⟨t, rfl⟩
end
-- TCut
section
local macro_rules | `(tactic| walk_at "compareOp NotEq ref ref") => `(tactic| (refine Hold.out ?_))
local macro_rules | `(tactic| walk_at "setItem ref int") => `(tactic| (refine Hold.out ?_))
local macro_rules | `(tactic| walk_at "call builtin:list.append") => `(tactic| (refine Hold.out ?_))
local macro_rules | `(tactic| walk_at "subscriptTail Name UnaryOp ref int") => `(tactic| (k_here; (with_unfolding_all refine' get_last ?hl ?_; (case hl => exact ⟨_, News.get (by k_asm) (by k_mem), rfl, _, rfl⟩))))
local macro_rules | `(tactic| walk_at "newTuple") => `(tactic| (k_here; k_dflt (refine' kup_newTuple ?F ?N ?_ ?z; (case F => k_asm); (case N => k_asm); (case z => kmk_size)); intro D' h' F' N' l1))
def sg (c : Nat) : Str := ⟨#[c]⟩
def cutStep (tok : Nat → Bool) (ps : List (Bool × Str)) (c : Nat) : List (Bool × Str) :=
  match ps.getLast? with
  | some q => if q.1 = tok c then ps.dropLast ++ [(tok c, q.2 ++ sg c)] else ps ++ [(tok c, sg c)]
  | none => ps ++ [(tok c, sg c)]
def cutF (tok : Nat → Bool) (cs : List Nat) : List (Bool × Str) := cs.foldl (cutStep tok) []
theorem cutF_snoc (tok : Nat → Bool) (l : List Nat) (c : Nat) : cutF tok (l ++ [c]) = cutStep tok (cutF tok l) c := by simp [cutF, List.foldl_append]
theorem cutStep_same {tok : Nat → Bool} {ps : List (Bool × Str)} {b : Bool} {t : Str} {c : Nat} (h : b = tok c) : cutStep tok (ps ++ [(b, t)]) c = ps ++ [(tok c, t ++ sg c)] := by
  simp [cutStep, h]
theorem cutStep_other {tok : Nat → Bool} {ps : List (Bool × Str)} {b : Bool} {t : Str} {c : Nat} (h : b ≠ tok c) : cutStep tok (ps ++ [(b, t)]) c = ps ++ [(b, t)] ++ [(tok c, sg c)] := by
  simp [cutStep, h]
def isTok (c : Nat) : Bool := Txt.isalnum (sg c)
def Pc.pr (p : Pc) : Bool × Str := (p.b, p.t)
theorem fine_sg {k : Str} {i c : Nat} (hk : Fine k) (hc : k.cps[i]? = some c) : Fine (sg c) := by
  have h := List.all_eq_true.mp (by simpa [Fine, PyData.strOk] using hk : k.cps.toList.all (fun x => decide (x < 0x110000)) = true) c (by rw [Array.mem_toList_iff]; exact Array.mem_of_getElem? hc)
  simpa [Fine, PyData.strOk, sg] using h
theorem fine_app {a b : Str} (ha : Fine a) (hb : Fine b) : Fine (a ++ b) := by
  unfold Fine PyData.strOk at *
  rw [Str.cps_append, Array.all_append, ha, hb]; rfl
theorem pcs_back {h₀ h : Heap} {L I l : Addr} {oI : Obj} {n : Nat} {ps' : List Pc} {q : Pc} {g : Pc → Addr × Obj} (N : News h₀ L h ((l, listOf (ps'.map Pc.val ++ [q.val]).toArray n) :: (I, oI) :: g q :: ps'.map g)) :
    News h₀ L h ((I, oI) :: (l, listOf ((ps' ++ [q]).map Pc.val).toArray n) :: (ps' ++ [q]).map g) := by
  intro p hp
  refine N p ?_
  simp only [List.map_append, List.map_cons, List.map_nil, List.mem_cons, List.mem_append, List.not_mem_nil, or_false] at hp ⊢
  rcases hp with h | h | h | h
  · exact .inr (.inl h)
  · exact .inl h
  · exact .inr (.inr (.inr h))
  · exact .inr (.inr (.inl h))
theorem list_ne_tuple {its its' : Array Value} {n n' : Nat} (h : some (listOf its n) = some ({ cls := .type "tuple", data := .seq its' n' } : Obj)) : False := by
  have h2 := congrArg Obj.cls (Option.some.inj h)
  simp at h2
theorem pcs_turn {h₀ h : Heap} {L I l : Addr} {oI : Obj} {n : Nat} {ps' : List Pc} {q : Pc} {g : Pc → Addr × Obj} (N : News h₀ L h ((I, oI) :: (l, listOf ((ps' ++ [q]).map Pc.val).toArray n) :: (ps' ++ [q]).map g)) :
    News h₀ L h ((I, oI) :: (l, listOf (ps'.map Pc.val ++ [q.val]).toArray n) :: g q :: ps'.map g) := by
  intro p hp
  refine N p ?_
  simp only [List.map_append, List.map_cons, List.map_nil]
  rcases List.mem_cons.mp hp with rfl | hp
  · exact .head _
  rcases List.mem_cons.mp hp with rfl | hp
  · exact .tail _ (.head _)
  rcases List.mem_cons.mp hp with rfl | hp
  · exact .tail _ (.tail _ (List.mem_append_right _ (.head _)))
  · exact .tail _ (.tail _ (List.mem_append_left _ hp))
set_option maxHeartbeats 4000000 in
theorem cut_spec (w : World) (k : Str) (t : Nat) (hk : k.length ≤ 9) (hf : Fine k) : Spec w 49 [.str k t] (fun _ => True) [] 12
    (fun g h' v => ∃ (l : Addr) (n : Nat) (ps : List Pc), v = .ref l ∧ h'.get? l = some (listOf (ps.map Pc.val).toArray n) ∧ g.get? l = none ∧ (∀ p ∈ ps, h'.get? p.a = some p.ent.2 ∧ g.get? p.a = none) ∧ (∀ p ∈ ps, Fine p.t ∧ p.t.length ≤ 9) ∧ ps.length ≤ 9 ∧ ps.map Pc.pr = cutF isTok k.cps.toList) := by
  unfold Spec
  k_fill
  intro mg mb mean dp un gd base g env outer s B X T hk hz hpre ht hd hu
  k_dflt (refine' enter B X T hk hz ht ?k6 ?k7 ?k8 ?k9 ?kB ?_ ?c2 ?c3 ?c4 ?c5; (case k6 => k_is); (case k7 => k_is); (case k8 => ktr_room); (case k9 => exact BindsTo.of_eq rfl); (case c5 => decide); (case kB => exact locs rfl); (case c2 => exact rfl); (case c3 => exact rfl); (case c4 => exact rfl); k_whole; intro L' h' F' N' l1; (try k_lt l1); (try dsimp only); (try k_fold))
  clear hk hz ht
  k_steps
  refine Hold.mk ?_
  (rename Fr _ _ _ _ => F9); (rename News _ _ _ _ => N9)
  with_unfolding_all refine iter_str (fun i m nx => ∃ (l : Addr) (n : Nat) (ps : List Pc), nx = (l, listOf (ps.map Pc.val).toArray n) :: ps.map Pc.ent ∧ m "pieces" = some (.ref l) ∧ (∀ p ∈ ps, Fine p.t ∧ p.t.length ≤ i) ∧ ps.length ≤ i ∧ ps.map Pc.pr = cutF isTok (k.cps.toList.take i)) rfl F9 N9 ⟨_, _, [], rfl, rfl, (fun _ h => nomatch h), Nat.le_refl _, rfl⟩ ?_ ?_
  · rintro i c tc m₁ nx h tk I oI hc ⟨l, n, ps, rfl, hpieces, hfine, hlen, hps⟩ F1 N1 hn1
    clear F9 N9
    have hi : i < 9 := by
      have : i < k.cps.size := by
        rcases Nat.lt_or_ge i k.cps.size with h | h
        · exact h
        · rw [Array.getElem?_eq_none h] at hc; cases hc
      exact Nat.lt_of_lt_of_le this hk
    have hsg := fine_sg hf hc
    have hl1 : (sg c).length = 1 := rfl
    have hlI : l ≠ I := hn1 (l, listOf (ps.map Pc.val).toArray n) (.head _)
    rcases List.eq_nil_or_concat ps with rfl | ⟨ps', q, rfl⟩
    · simp only [List.map_nil] at *
      (try k_fold)
      k_steps
      refine Hold.mk ?_
      (rename News _ _ _ _ => N9)
      refine ne_nil (ds := []) ⟨_, N9.get (by k_mem), rfl, _, rfl⟩ ReadsAll.nil (by decide) (N9.get (by k_mem)) (by ke_room) ?_
      k_steps
      refine Hold.mk ?_
      rename_i D9 h9 F9 N9 l9
      have hlD := l9 _ (show (l, _) ∈ _ by k_mem)
      have hID := l9 _ (show (I, _) ∈ _ by k_mem)
      refine append_at' (vs := []) [(I, oI), (Pc.mk D9 (isTok c) (sg c) tc 0).ent] F9 N9 (by k_mem) (fun p hp => ?_) (by decide) fun h8 F8 N8 => ?_
      · rcases List.mem_cons.mp hp with rfl | hp
        · exact ⟨by k_mem, fun e => hn1 _ (.head _) e.symm⟩
        · rw [List.mem_singleton.mp hp]
          exact ⟨by k_mem, Ne.symm (Nat.ne_of_lt hlD)⟩
      · k_steps
        refine TurnPost.next F8 (nx := (l, listOf [Value.ref D9].toArray (n + 1)) :: [(Pc.mk D9 (isTok c) (sg c) tc 0).ent]) (news_sub N8 fun p hp => ?_) (fun p hp => ?_) ⟨l, n + 1, [Pc.mk D9 (isTok c) (sg c) tc 0], rfl, hpieces, ?_, ?_, ?_⟩
        · simp only [List.mem_cons, List.not_mem_nil, or_false] at hp ⊢
          rcases hp with h | h | h
          · exact .inr (.inl h)
          · exact .inl h
          · exact .inr (.inr h)
        · rcases List.mem_cons.mp hp with rfl | hp
          · exact hlI
          · rw [List.mem_singleton.mp hp]; exact Ne.symm (Nat.ne_of_lt hID)
        · intro p hp
          rw [List.mem_singleton.mp hp]
          exact ⟨hsg, by show (sg c).length ≤ i + 1; omega⟩
        · show 1 ≤ i + 1; omega
        · rw [take_snoc hc, cutF_snoc, ← hps]; rfl
    · rw [List.concat_eq_append] at *
      have N2 := pcs_turn N1
      clear N1
      (try k_fold)
      k_steps
      refine Hold.mk ?_
      (rename News _ _ _ _ => N9)
      have hR := reads_pcs (ps := ps' ++ [q]) (h := _) (fun p hp => N9.get (o := p.ent.2) (a := p.a) (by
        rcases List.mem_append.mp hp with hp | hp
        · exact List.mem_cons_of_mem _ (List.mem_cons_of_mem _ (List.mem_cons_of_mem _ (List.mem_cons_of_mem _ (List.mem_map.mpr ⟨p, hp, rfl⟩))))
        · rw [List.mem_singleton.mp hp]; k_mem))
      obtain ⟨as, hR⟩ := hR
      refine ne_nil ⟨_, N9.get (by k_mem), rfl, _, rfl⟩ (by simpa using hR) (shaped_pcs (ps := ps' ++ [q]) fun p hp => (hfine p hp).1) (N9.get (by k_mem)) (by ke_room) ?_
      rw [show (!(List.map Pc.dat (ps' ++ [q])).isEmpty) = true by simp]
      clear hR
      obtain ⟨hqf, hql⟩ := hfine q (List.mem_append_right _ (.head _))
      rw [List.length_append] at hlen
      k_steps
      · refine Hold.mk ?_
        rename_i D9 h9 F9 N9 l9
        (rename (_ == _) = true => hq9)
        have hqe : q.b = isTok c := eq_of_beq hq9
        obtain ⟨tk9, N9⟩ : ∃ tk9 : Tok, News g _ _ ((Pc.mk D9 (isTok c) (q.t ++ sg c) tk9 0).ent :: _) := ⟨_, N9⟩
        have hlD := l9 _ (show (l, _) ∈ _ by k_mem)
        have hID := l9 _ (show (I, _) ∈ _ by k_mem)
        refine set_last ((I, oI) :: (Pc.mk D9 (isTok c) (q.t ++ sg c) tk9 0).ent :: ps'.map Pc.ent) F9 N9 (by k_mem) (fun p hp => ?_) fun h8 F8 N8 => ?_
        · rcases List.mem_cons.mp hp with rfl | hp
          · exact ⟨by k_mem, fun e => hn1 _ (.head _) e.symm⟩
          rcases List.mem_cons.mp hp with rfl | hp
          · exact ⟨by k_mem, Ne.symm (Nat.ne_of_lt hlD)⟩
          · have hm := List.mem_cons_of_mem (Pc.mk D9 (isTok c) (q.t ++ sg c) 0 0).ent hp
            refine ⟨?_, fun e => ?_⟩
            · exact .tail _ (.tail _ (.tail _ (.tail _ (.tail _ hp))))
            · obtain ⟨r, _, rfl⟩ := List.mem_map.mp hp
              have e1 := N9.get (a := r.a) (o := r.ent.2) (.tail _ (.tail _ (.tail _ (.tail _ (.tail _ hp)))))
              have e2 := N9.get (show (l, _) ∈ _ by k_mem)
              rw [show r.a = l from e, e2] at e1
              exact list_ne_tuple e1
        · k_steps
          generalize hk9 : Pc.mk D9 (isTok c) (q.t ++ sg c) tk9 0 = new at N8
          have hnew : new.a = D9 ∧ new.b = isTok c ∧ new.t = q.t ++ sg c := by subst hk9; exact ⟨rfl, rfl, rfl⟩
          have N10 := pcs_back (q := new) (by have e : Pc.val new = Value.ref D9 := by rw [Pc.val, hnew.1]
                                              rw [e]; exact N8)
          refine TurnPost.next F8 N10 (fun p hp => ?_) ⟨l, n, ps' ++ [new], rfl, hpieces, ?_, ?_, ?_⟩
          · rcases List.mem_cons.mp hp with rfl | hp
            · exact hlI
            rw [List.map_append] at hp
            rcases List.mem_append.mp hp with hp | hp
            · exact hn1 _ (.tail _ (by rw [List.map_append]; exact List.mem_append_left _ hp))
            · rw [List.mem_singleton.mp hp]; show new.a ≠ I; rw [hnew.1]; exact Ne.symm (Nat.ne_of_lt hID)
          · intro p hp
            rcases List.mem_append.mp hp with hp | hp
            · have := hfine p (List.mem_append_left _ hp)
              exact ⟨this.1, Nat.le_succ_of_le this.2⟩
            · rw [List.mem_singleton.mp hp, hnew.2.2]
              exact ⟨fine_app hqf hsg, by rw [Str.length_append]; omega⟩
          · rw [List.length_append]
            have : [q].length = [new].length := rfl
            omega
          · rw [take_snoc hc, cutF_snoc, ← hps, List.map_append, List.map_append]
            show _ = cutStep isTok (ps'.map Pc.pr ++ [(q.b, q.t)]) c
            rw [cutStep_same hqe]
            show _ ++ [(new.b, new.t)] = _
            rw [hnew.2.1, hnew.2.2]
      · refine Hold.mk ?_
        rename_i D9 h9 F9 N9 l9
        (rename (_ == _) = false => hq9)
        have hqe : q.b ≠ isTok c := ne_of_beq_false hq9
        have hlD := l9 _ (show (l, _) ∈ _ by k_mem)
        have hID := l9 _ (show (I, _) ∈ _ by k_mem)
        refine append_at' ((I, oI) :: (Pc.mk D9 (isTok c) (sg c) tc 0).ent :: q.ent :: ps'.map Pc.ent) F9 N9 (by k_mem) (fun p hp => ?_) (by simp; omega) fun h8 F8 N8 => ?_
        · rcases List.mem_cons.mp hp with rfl | hp
          · exact ⟨by k_mem, fun e => hn1 _ (.head _) e.symm⟩
          rcases List.mem_cons.mp hp with rfl | hp
          · exact ⟨by k_mem, Ne.symm (Nat.ne_of_lt hlD)⟩
          · refine ⟨.tail _ (.tail _ (.tail _ (.tail _ hp))), fun e => ?_⟩
            have hp' : p ∈ (q :: ps').map Pc.ent := hp
            obtain ⟨r, _, rfl⟩ := List.mem_map.mp hp'
            have e1 := N9.get (a := r.a) (o := r.ent.2) (.tail _ (.tail _ (.tail _ (.tail _ hp))))
            have e2 := N9.get (show (l, _) ∈ _ by k_mem)
            rw [show r.a = l from e, e2] at e1
            exact list_ne_tuple e1
        · k_steps
          generalize hk9 : Pc.mk D9 (isTok c) (sg c) tc 0 = new at N8
          have hnew : new.a = D9 ∧ new.b = isTok c ∧ new.t = sg c := by subst hk9; exact ⟨rfl, rfl, rfl⟩
          have N10 := pcs_back (ps' := ps' ++ [q]) (q := new) (l := l) (n := n + 1) (I := I) (oI := oI) (g := Pc.ent) (news_sub N8 fun p hp => by
            have e : Pc.val new = Value.ref D9 := by rw [Pc.val, hnew.1]
            rw [e] at hp
            simp only [List.map_append, List.map_cons, List.map_nil, List.mem_cons, List.mem_append, List.not_mem_nil, or_false] at hp ⊢
            rcases hp with h | h | h | h | h
            · exact .inl h
            · exact .inr (.inl h)
            · exact .inr (.inr (.inl h))
            · exact .inr (.inr (.inr (.inr h)))
            · exact .inr (.inr (.inr (.inl h))))
          refine TurnPost.next F8 N10 (fun p hp => ?_) ⟨l, n + 1, ps' ++ [q] ++ [new], rfl, hpieces, ?_, ?_, ?_⟩
          · rcases List.mem_cons.mp hp with rfl | hp
            · exact hlI
            rw [List.map_append] at hp
            rcases List.mem_append.mp hp with hp | hp
            · exact hn1 _ (.tail _ hp)
            · rw [List.mem_singleton.mp hp]; show new.a ≠ I; rw [hnew.1]; exact Ne.symm (Nat.ne_of_lt hID)
          · intro p hp
            rcases List.mem_append.mp hp with hp | hp
            · have := hfine p hp
              exact ⟨this.1, Nat.le_succ_of_le this.2⟩
            · rw [List.mem_singleton.mp hp, hnew.2.2]
              exact ⟨hsg, by omega⟩
          · rw [List.length_append, List.length_append]
            have : [new].length = 1 := rfl
            omega
          · rw [take_snoc hc, cutF_snoc, ← hps, List.map_append, List.map_append]
            show _ = cutStep isTok (ps'.map Pc.pr ++ [(q.b, q.t)]) c
            rw [cutStep_other hqe]
            show _ ++ [(new.b, new.t)] = _
            rw [hnew.2.1, hnew.2.2]
            rfl
  · rintro m₁ nx h tk ⟨l, n, ps, rfl, hpieces, hfine, hlen, hps⟩ F1 N1
    clear F9 N9
    k_steps
    have hs : k.cps.toList.take k.cps.size = k.cps.toList := by rw [← Array.length_toList, List.take_length]
    refine After.intro F1 ⟨l, n, ps, rfl, N1.get (.head _), N1.fresh (.head _), fun p hp => ⟨N1.get (.tail _ (List.mem_map.mpr ⟨p, hp, rfl⟩)), N1.fresh (o := p.ent.2) (.tail _ (List.mem_map.mpr ⟨p, hp, rfl⟩))⟩, fun p hp => ⟨(hfine p hp).1, Nat.le_trans (hfine p hp).2 hk⟩, Nat.le_trans hlen hk, by rw [hps, hs]⟩
end
-- TSign
section
def codes : List Nat := [97, 49, 48, 73, 233, 46, 45, 40, 41, 32]
def sgnB (c : Nat) : Bool := c == 46 || c == 45 || c == 40 || c == 41 || c == 32
theorem isTok_codes : ∀ c ∈ codes, isTok c = !sgnB c := by decide +kernel
set_option maxHeartbeats 4000000 in
theorem sign_spec (w : World) (c : Nat) (t : Nat) (hc : c ∈ codes) : Spec w 124 [.str ⟨#[c]⟩ t] (fun _ => True) [] 1 (fun _ _ v => v = .bool (sgnB c)) := by
  unfold Spec
  k_fill
  intro mg mb mean dp un gd base g env outer s B X T hk hz hpre ht hd hu
  k_dflt (refine' enter B X T hk hz ht ?k6 ?k7 ?k8 ?k9 ?kB ?_ ?c2 ?c3 ?c4 ?c5; (case k6 => k_is); (case k7 => k_is); (case k8 => ktr_room); (case k9 => exact BindsTo.of_eq rfl); (case c5 => decide); (case kB => exact locs rfl); (case c2 => exact rfl); (case c3 => exact rfl); (case c4 => exact rfl); k_whole; intro L' h' F' N' l1; (try k_lt l1); (try dsimp only); (try k_fold))
  clear hk hz ht
  k_steps
  (rename Fr _ _ _ _ => F9)
  refine After.intro F9 (congrArg Value.bool ?_)
  simp only [codes, List.mem_cons, List.not_mem_nil, or_false] at hc
  rcases hc with rfl | rfl | rfl | rfl | rfl | rfl | rfl | rfl | rfl | rfl <;> decide +kernel
end
-- TRuns
section
local macro_rules | `(tactic| walk_at "compareOp NotEq ref ref") => `(tactic| (refine Hold.out ?_))
local macro_rules | `(tactic| walk_at "setItem ref int") => `(tactic| (refine Hold.out ?_))
local macro_rules | `(tactic| walk_at "call builtin:list.append") => `(tactic| (refine Hold.out ?_))
local macro_rules | `(tactic| walk_at "subscriptTail Name UnaryOp ref int") => `(tactic| (k_here; (with_unfolding_all refine' get_last ?hl ?_; (case hl => exact ⟨_, News.get (by k_asm) (by k_mem), rfl, _, rfl⟩))))
local macro_rules | `(tactic| walk_at "newTuple") => `(tactic| (k_here; k_dflt (refine' kup_newTuple ?F ?N ?_ ?z; (case F => k_asm); (case N => k_asm); (case z => kmk_size)); intro D' h' F' N' l1))
local macro_rules | `(tactic| walk_at "call ref") => `(tactic| (k_here; (with_unfolding_all refine' use_pure (sign_spec _ _ _ ?hc) ?B ?F ?X ?T ?N ?hf ?hke ?hdp ?hun ?_; (case N | B | F | X | T => k_asm); (case hf | hke => rfl); (case hdp => ktr_room); (case hun => ktr_units); (case hc => assumption)); intro g' h' tk' v' F' N' _ hp'; subst hp'; (try k_fold)))
theorem list_ne {its its' : Array Value} {n n' : Nat} (h : some (listOf its n) = some (listOf its' n')) (hs : its.size ≠ its'.size) : False := by
  have h2 := congrArg Obj.data (Option.some.inj h)
  simp only [Data.seq.injEq] at h2
  exact hs (by rw [h2.1])
theorem lst_ne {ps : List Pc} {q : Pc} {n n' : Nat} {b : Bool} {t : Str} {tk : Tok} (h : some (listOf (ps.map Pc.val ++ [q.val]).toArray n) = some (listOf [.bool b, .str t tk].toArray n')) : False := by
  have h2 := congrArg Obj.data (Option.some.inj h)
  simp only [Data.seq.injEq] at h2
  have h3 := congrArg Array.toList h2.1
  cases ps with
  | nil => simp at h3
  | cons p r => simp at h3
theorem lst_ne0 {n n' : Nat} {b : Bool} {t : Str} {tk : Tok} (h : some (listOf ([] : List Value).toArray n) = some (listOf [.bool b, .str t tk].toArray n')) : False := by
  have h2 := congrArg Obj.data (Option.some.inj h)
  simp only [Data.seq.injEq] at h2
  have h3 := congrArg Array.toList h2.1
  simp at h3
set_option maxHeartbeats 4000000 in
theorem runs_spec (w : World) (k : Str) (t : Nat) (hk : k.length ≤ 9) (hf : Fine k) (hcd : ∀ c ∈ k.cps.toList, c ∈ codes) : Spec w 131 [.str k t] (fun _ => True) [] 12
    (fun g h' v => ∃ (l : Addr) (n : Nat) (ps : List Pc), v = .ref l ∧ h'.get? l = some (listOf (ps.map Pc.val).toArray n) ∧ g.get? l = none ∧ (∀ p ∈ ps, h'.get? p.a = some p.lst.2 ∧ g.get? p.a = none) ∧ (∀ p ∈ ps, Fine p.t ∧ p.t.length ≤ 9) ∧ ps.length ≤ 9 ∧ ps.map Pc.pr = cutF (fun c => !sgnB c) k.cps.toList) := by
  unfold Spec
  k_fill
  intro mg mb mean dp un gd base g env outer s B X T hk hz hpre ht hd hu
  k_dflt (refine' enter B X T hk hz ht ?k6 ?k7 ?k8 ?k9 ?kB ?_ ?c2 ?c3 ?c4 ?c5; (case k6 => k_is); (case k7 => k_is); (case k8 => ktr_room); (case k9 => exact BindsTo.of_eq rfl); (case c5 => decide); (case kB => exact locs rfl); (case c2 => exact rfl); (case c3 => exact rfl); (case c4 => exact rfl); k_whole; intro L' h' F' N' l1; (try k_lt l1); (try dsimp only); (try k_fold))
  clear hk hz ht
  k_steps
  refine Hold.mk ?_
  (rename Fr _ _ _ _ => F9); (rename News _ _ _ _ => N9)
  with_unfolding_all refine iter_str (fun i m nx => ∃ (l : Addr) (n : Nat) (ps : List Pc), nx = (l, listOf (ps.map Pc.val).toArray n) :: ps.map Pc.lst ∧ m "found" = some (.ref l) ∧ (∀ p ∈ ps, Fine p.t ∧ p.t.length ≤ i) ∧ ps.length ≤ i ∧ (ps.map Pc.a).Nodup ∧ ps.map Pc.pr = cutF (fun c => !sgnB c) (k.cps.toList.take i)) rfl F9 N9 ⟨_, _, [], rfl, rfl, (fun _ h => nomatch h), Nat.le_refl _, List.nodup_nil, rfl⟩ ?_ ?_
  · rintro i c tc m₁ nx h tk I oI hc ⟨l, n, ps, rfl, hpieces, hfine, hlen, hnd, hps⟩ F1 N1 hn1
    clear F9 N9
    have hi : i < 9 := by
      have : i < k.cps.size := by
        rcases Nat.lt_or_ge i k.cps.size with h | h
        · exact h
        · rw [Array.getElem?_eq_none h] at hc; cases hc
      exact Nat.lt_of_lt_of_le this hk
    have hsg := fine_sg hf hc
    have hcc := hcd c (by rw [Array.mem_toList_iff]; exact Array.mem_of_getElem? hc)
    have hl1 : (sg c).length = 1 := rfl
    have hlI : l ≠ I := hn1 (l, listOf (ps.map Pc.val).toArray n) (.head _)
    rcases List.eq_nil_or_concat ps with rfl | ⟨ps', q, rfl⟩
    · simp only [List.map_nil] at *
      (try k_fold)
      k_steps
      refine Hold.mk ?_
      (rename News _ _ _ _ => N9)
      refine ne_nil (ds := []) ⟨_, N9.get (by k_mem), rfl, _, rfl⟩ ReadsAll.nil (by decide) (N9.get (by k_mem)) (by ke_room) ?_
      k_steps
      refine Hold.mk ?_
      rename_i D9 h9 F9 N9 l9
      obtain ⟨_, hID, hlD⟩ := l9
      refine append_at' (vs := []) [(I, oI), (Pc.mk D9 (!sgnB c) (sg c) tc 0).lst] F9 N9 (by k_mem) (fun p hp => ?_) (by decide) fun h8 F8 N8 => ?_
      · rcases List.mem_cons.mp hp with rfl | hp
        · exact ⟨by k_mem, fun e => hlI e.symm⟩
        · rw [List.mem_singleton.mp hp]
          exact ⟨by k_mem, Ne.symm (Nat.ne_of_lt hlD)⟩
      · k_steps
        refine TurnPost.next F8 (nx := (l, listOf [Value.ref D9].toArray (n + 1)) :: [(Pc.mk D9 (!sgnB c) (sg c) tc 0).lst]) (news_sub N8 fun p hp => ?_) (fun p hp => ?_) ⟨l, n + 1, [Pc.mk D9 (!sgnB c) (sg c) tc 0], rfl, hpieces, ?_, ?_, ?_, ?_⟩
        · simp only [List.mem_cons, List.not_mem_nil, or_false] at hp ⊢
          rcases hp with h | h | h
          · exact .inr (.inl h)
          · exact .inl h
          · exact .inr (.inr h)
        · rcases List.mem_cons.mp hp with rfl | hp
          · exact hlI
          · rw [List.mem_singleton.mp hp]; exact Ne.symm (Nat.ne_of_lt hID)
        · intro p hp
          rw [List.mem_singleton.mp hp]
          exact ⟨hsg, by show (sg c).length ≤ i + 1; omega⟩
        · show 1 ≤ i + 1; omega
        · exact List.nodup_cons.mpr ⟨List.not_mem_nil, List.nodup_nil⟩
        · rw [take_snoc hc, cutF_snoc, ← hps]; rfl
    · rw [List.concat_eq_append] at *
      have N2 := pcs_turn N1
      clear N1
      (try k_fold)
      k_steps
      refine Hold.mk ?_
      (rename News _ _ _ _ => N9)
      have hR := reads_lsts (ps := ps' ++ [q]) (h := _) (fun p hp => N9.get (o := p.lst.2) (a := p.a) (by
        rcases List.mem_append.mp hp with hp | hp
        · exact List.mem_cons_of_mem _ (List.mem_cons_of_mem _ (List.mem_cons_of_mem _ (List.mem_cons_of_mem _ (List.mem_map.mpr ⟨p, hp, rfl⟩))))
        · rw [List.mem_singleton.mp hp]; k_mem))
      obtain ⟨as, hR⟩ := hR
      refine ne_nil ⟨_, N9.get (by k_mem), rfl, _, rfl⟩ (by simpa using hR) (shaped_lsts (ps := ps' ++ [q]) fun p hp => (hfine p hp).1) (N9.get (by k_mem)) (by ke_room) ?_
      rw [show (!(List.map Pc.ldat (ps' ++ [q])).isEmpty) = true by simp]
      clear hR
      obtain ⟨hqf, hql⟩ := hfine q (List.mem_append_right _ (.head _))
      rw [List.length_append] at hlen
      have hnd' : (ps'.map Pc.a).Nodup ∧ q.a ∉ ps'.map Pc.a := by
        rw [List.map_append] at hnd
        have h3 := List.nodup_append.mp hnd
        exact ⟨h3.1, fun h => h3.2.2 _ h _ (.head _) rfl⟩
      k_steps
      · refine Hold.mk ?_
        (rename (_ != _) = true => hq9)
        have hqe : q.b = !sgnB c := by
          have := bne_iff_ne.mp hq9
          cases hb : q.b <;> cases hs : sgnB c <;> simp_all
        (rename Fr _ _ _ _ => F9); (rename News _ _ _ _ => N9)
        have e2 := N9.get (show (l, _) ∈ _ by k_mem)
        have hql' : q.a ≠ l := fun e => by
          have e1 := N9.get (show q.lst ∈ _ by k_mem)
          rw [show q.a = l from e, e2] at e1
          exact lst_ne e1
        refine set_item ((I, oI) :: (l, listOf (ps'.map Pc.val ++ [q.val]).toArray n) :: ps'.map Pc.lst) F9 N9 (by k_mem) (fun p hp => ?_) (by decide) (by decide) rfl fun h8 F8 N8 => ?_
        · rcases List.mem_cons.mp hp with rfl | hp
          · exact ⟨by k_mem, fun e => hn1 q.lst (.tail _ (by rw [List.map_append]; exact List.mem_append_right _ (.head _))) e.symm⟩
          rcases List.mem_cons.mp hp with rfl | hp
          · exact ⟨by k_mem, Ne.symm hql'⟩
          · refine ⟨.tail _ (.tail _ (.tail _ (.tail _ hp))), fun e => ?_⟩
            obtain ⟨r, hr, rfl⟩ := List.mem_map.mp hp
            exact hnd'.2 (List.mem_map.mpr ⟨r, hr, e⟩)
        · k_steps
          obtain ⟨tk9, N8⟩ : ∃ tk9 : Tok, News g _ _ ((Pc.mk q.a q.b (q.t ++ sg c) tk9 q.n).lst :: _) := ⟨_, N8⟩
          generalize hk9 : Pc.mk q.a q.b (q.t ++ sg c) tk9 q.n = new at N8
          have hnew : new.a = q.a ∧ new.b = q.b ∧ new.t = q.t ++ sg c := by subst hk9; exact ⟨rfl, rfl, rfl⟩
          have N10 := pcs_back (ps' := ps') (q := new) (l := l) (n := n) (I := I) (oI := oI) (g := Pc.lst) (news_sub N8 fun p hp => by
            have e : Pc.val new = Pc.val q := by rw [Pc.val, hnew.1]
            rw [e] at hp
            simp only [List.mem_cons] at hp ⊢
            rcases hp with h | h | h | h
            · exact .inr (.inr (.inl h))
            · exact .inr (.inl h)
            · exact .inl h
            · exact .inr (.inr (.inr h)))
          refine TurnPost.next F8 N10 (fun p hp => ?_) ⟨l, n, ps' ++ [new], rfl, hpieces, ?_, ?_, ?_, ?_⟩
          · rcases List.mem_cons.mp hp with rfl | hp
            · exact hlI
            rw [List.map_append] at hp
            rcases List.mem_append.mp hp with hp | hp
            · exact hn1 _ (.tail _ (by rw [List.map_append]; exact List.mem_append_left _ hp))
            · rw [List.mem_singleton.mp hp]; show new.a ≠ I; rw [hnew.1]
              exact hn1 q.lst (.tail _ (by rw [List.map_append]; exact List.mem_append_right _ (.head _)))
          · intro p hp
            rcases List.mem_append.mp hp with hp | hp
            · have := hfine p (List.mem_append_left _ hp)
              exact ⟨this.1, Nat.le_succ_of_le this.2⟩
            · rw [List.mem_singleton.mp hp, hnew.2.2]
              exact ⟨fine_app hqf hsg, by rw [Str.length_append]; omega⟩
          · rw [List.length_append]
            have : [q].length = [new].length := rfl
            omega
          · rw [List.map_append] at hnd ⊢
            show (ps'.map Pc.a ++ [new.a]).Nodup
            rw [hnew.1]; exact hnd
          · rw [take_snoc hc, cutF_snoc, ← hps, List.map_append, List.map_append]
            show _ = cutStep (fun c => !sgnB c) (ps'.map Pc.pr ++ [(q.b, q.t)]) c
            rw [cutStep_same (tok := fun c => !sgnB c) hqe]
            show _ ++ [(new.b, new.t)] = _
            rw [hnew.2.1, hnew.2.2, hqe]
      · refine Hold.mk ?_
        rename_i D9 h9 F9 N9 l9
        obtain ⟨_, hID, hlD, hqD, hpD⟩ := l9
        (rename (_ != _) = false => hq9)
        have hqe : q.b ≠ !sgnB c := by
          have := bne_eq_false_iff_eq.mp hq9
          cases hb : q.b <;> cases hs : sgnB c <;> simp_all
        have e2 := N9.get (show (l, _) ∈ _ by k_mem)
        refine append_at' ((I, oI) :: (Pc.mk D9 (!sgnB c) (sg c) tc 0).lst :: q.lst :: ps'.map Pc.lst) F9 N9 (by k_mem) (fun p hp => ?_) (by simp; omega) fun h8 F8 N8 => ?_
        · rcases List.mem_cons.mp hp with rfl | hp
          · exact ⟨by k_mem, fun e => hlI e.symm⟩
          rcases List.mem_cons.mp hp with rfl | hp
          · exact ⟨by k_mem, Ne.symm (Nat.ne_of_lt hlD)⟩
          · refine ⟨.tail _ (.tail _ (.tail _ (.tail _ hp))), fun e => ?_⟩
            have hp' : p ∈ (q :: ps').map Pc.lst := hp
            obtain ⟨r, _, rfl⟩ := List.mem_map.mp hp'
            have e1 := N9.get (a := r.a) (o := r.lst.2) (.tail _ (.tail _ (.tail _ (.tail _ hp))))
            rw [show r.a = l from e, e2] at e1
            exact lst_ne e1
        · k_steps
          generalize hk9 : Pc.mk D9 (!sgnB c) (sg c) tc 0 = new at N8
          have hnew : new.a = D9 ∧ new.b = !sgnB c ∧ new.t = sg c := by subst hk9; exact ⟨rfl, rfl, rfl⟩
          have N10 := pcs_back (ps' := ps' ++ [q]) (q := new) (l := l) (n := n + 1) (I := I) (oI := oI) (g := Pc.lst) (news_sub N8 fun p hp => by
            have e : Pc.val new = Value.ref D9 := by rw [Pc.val, hnew.1]
            rw [e] at hp
            simp only [List.map_append, List.map_cons, List.map_nil, List.mem_cons, List.mem_append, List.not_mem_nil, or_false] at hp ⊢
            rcases hp with h | h | h | h | h
            · exact .inl h
            · exact .inr (.inl h)
            · exact .inr (.inr (.inl h))
            · exact .inr (.inr (.inr (.inr h)))
            · exact .inr (.inr (.inr (.inl h))))
          refine TurnPost.next F8 N10 (fun p hp => ?_) ⟨l, n + 1, ps' ++ [q] ++ [new], rfl, hpieces, ?_, ?_, ?_, ?_⟩
          · rcases List.mem_cons.mp hp with rfl | hp
            · exact hlI
            rw [List.map_append] at hp
            rcases List.mem_append.mp hp with hp | hp
            · exact hn1 _ (.tail _ hp)
            · rw [List.mem_singleton.mp hp]; show new.a ≠ I; rw [hnew.1]; exact Ne.symm (Nat.ne_of_lt hID)
          · intro p hp
            rcases List.mem_append.mp hp with hp | hp
            · have := hfine p hp
              exact ⟨this.1, Nat.le_succ_of_le this.2⟩
            · rw [List.mem_singleton.mp hp, hnew.2.2]
              exact ⟨hsg, by omega⟩
          · rw [List.length_append, List.length_append]
            have : [new].length = 1 := rfl
            omega
          · rw [List.map_append, List.nodup_append]
            refine ⟨hnd, List.nodup_cons.mpr ⟨List.not_mem_nil, List.nodup_nil⟩, fun x hx y hy e => ?_⟩
            have hy' : y = D9 := by rw [← hnew.1]; exact List.mem_singleton.mp hy
            subst e
            rw [List.map_append] at hx
            rcases List.mem_append.mp hx with hx | hx
            · obtain ⟨r, hr, rfl⟩ := List.mem_map.mp hx
              have h5 : r.a < D9 := kst_ltOf hpD _ (List.mem_map.mpr ⟨r, hr, rfl⟩)
              rw [show r.a = D9 from hy'] at h5
              exact Nat.lt_irrefl _ h5
            · rw [List.mem_singleton.mp hx] at hy'
              have h5 : q.a < D9 := hqD
              rw [hy'] at h5
              exact Nat.lt_irrefl _ h5
          · rw [take_snoc hc, cutF_snoc, ← hps, List.map_append, List.map_append]
            show _ = cutStep (fun c => !sgnB c) (ps'.map Pc.pr ++ [(q.b, q.t)]) c
            rw [cutStep_other (tok := fun c => !sgnB c) hqe]
            show _ ++ [(new.b, new.t)] = _
            rw [hnew.2.1, hnew.2.2]
            rfl
  · rintro m₁ nx h tk ⟨l, n, ps, rfl, hpieces, hfine, hlen, hnd, hps⟩ F1 N1
    clear F9 N9
    k_steps
    have hs : k.cps.toList.take k.cps.size = k.cps.toList := by rw [← Array.length_toList, List.take_length]
    refine After.intro F1 ⟨l, n, ps, rfl, N1.get (.head _), N1.fresh (.head _), fun p hp => ⟨N1.get (.tail _ (List.mem_map.mpr ⟨p, hp, rfl⟩)), N1.fresh (o := p.lst.2) (.tail _ (List.mem_map.mpr ⟨p, hp, rfl⟩))⟩, fun p hp => ⟨(hfine p hp).1, Nat.le_trans (hfine p hp).2 hk⟩, Nat.le_trans hlen hk, by rw [hps, hs]⟩
end
-- TPool
section
theorem pool_pos (a : Int) (c : Bool) : 0 ≤ (if -1 - a > a then -1 - a else a) * (if c = true then 1 else 0) := Int.mul_nonneg (by split <;> omega) (by split <;> decide)
set_option maxHeartbeats 4000000 in
theorem pool_spec (w : World) (l : Addr) (vs : List Value) (ns : List Int) (t : Nat) (hi : IntsAre vs ns) (hlen : ns.length ≤ 63) : Spec w 89 [.ref l, .int 0 t] (fun g => g.IsList l vs.toArray) [] 2 (fun g h' v => ∃ a x y tx ty n, v = .ref a ∧ 0 ≤ x ∧ 0 ≤ y ∧ y < 2147483647 ∧ h'.get? a = some (listOf [.int x tx, .int y ty].toArray n) ∧ g.get? a = none) := by
  unfold Spec
  k_fill
  intro mg mb mean dp un gd base g env outer s B X T hk hz hpre ht hd hu
  k_dflt (refine' enter B X T hk hz ht ?k6 ?k7 ?k8 ?k9 ?kB ?_ ?c2 ?c3 ?c4 ?c5; (case k6 => k_is); (case k7 => k_is); (case k8 => ktr_room); (case k9 => exact BindsTo.of_eq rfl); (case c5 => decide); (case kB => exact locs rfl); (case c2 => exact rfl); (case c3 => exact rfl); (case c4 => exact rfl); k_whole; intro L' h' F' N' l1; (try k_lt l1); (try dsimp only); (try k_fold))
  clear hk hz ht
  k_steps
  all_goals (dsimp only at *; (rename Fr _ _ _ _ => F9); (rename News _ _ _ _ => N9); refine After.intro F9 ⟨_, _, _, _, _, _, rfl, ?_, ?_, ?_, N9.get (by k_mem), N9.fresh (by k_mem)⟩)
  all_goals first | exact fm_0 _ _ (by decide) | exact fm_lt _ _ (by decide) | exact pool_pos _ _
end
section
local macro_rules | `(tactic| walk_at "call builtin:len") => `(tactic| (k_here; (with_unfolding_all refine' len_at ?N ?m ?f ?_; (case N => k_asm); (case m => k_mem); (case f => first | assumption | omega))))
-- TToken
section
abbrev tval (p : Str × Tok) : Value := .str p.1 p.2
abbrev fmtDict (w : World) (bf af : Str × Tok) (lt lb : Addr) (t1 t2 t3 t4 n : Nat) : Obj := dictOf [⟨PyData.keyHash w.params "before", .str "before" t1, .str bf.1 bf.2⟩, ⟨PyData.keyHash w.params "after", .str "after" t2, .str af.1 af.2⟩, ⟨PyData.keyHash w.params "tokens", .str "tokens" t3, .ref lt⟩, ⟨PyData.keyHash w.params "between", .str "between" t4, .ref lb⟩] n
def lastAt (ts : List Str) (p : Int) : Str := ts.getD (min p ((ts.length : Int) - 1)).toNat Str.empty
theorem lastAt_val {tv : List (Str × Tok)} {p i : Int} (hp : 0 ≤ p) (hn : 0 < tv.length) (e : i = min p ((tv.length : Int) - 1)) : ∃ t, (tv.map tval)[i.toNat]? = some (.str (lastAt (tv.map (·.1)) p) t) ∧ 0 ≤ i ∧ i < tv.length := by
  have h0 : 0 ≤ i := by omega
  have h1 : i < tv.length := by omega
  have h2 : i.toNat < tv.length := by omega
  refine ⟨(tv[i.toNat]).2, ?_, h0, h1⟩
  unfold lastAt
  rw [List.length_map, ← e]
  simp [h2]
set_option maxHeartbeats 4000000 in
theorem token_spec (w : World) (x dx lt lb : Addr) (t1 t2 t3 t4 n n1 : Nat) (bf af : Str × Tok) (tv : List (Str × Tok)) (p : Int) (tp : Nat) (hp : 0 ≤ p) (hp2 : p ≤ 100) (hn : 0 < tv.length) (hn2 : tv.length ≤ 100) :
    Spec w 68 [.ref x, .int p tp] (fun _ => True) [(x, instObj 78 dx), (dx, fmtDict w bf af lt lb t1 t2 t3 t4 n), (lt, listOf (tv.map tval).toArray n1)] 2
      (fun _ h' v => (∀ q ∈ [(x, instObj 78 dx), (dx, fmtDict w bf af lt lb t1 t2 t3 t4 n), (lt, listOf (tv.map tval).toArray n1)], h'.get? q.1 = some q.2) ∧ ∃ t, v = .str (lastAt (tv.map (·.1)) p) t) := by
  unfold Spec
  k_fill
  intro mg mb mean dp un gd base g env outer s B X T hk hz hpre ht hd hu
  k_dflt (refine' enter B X T hk hz ht ?k6 ?k7 ?k8 ?k9 ?kB ?_ ?c2 ?c3 ?c4 ?c5; (case k6 => k_is); (case k7 => k_is); (case k8 => ktr_room); (case k9 => exact BindsTo.of_eq rfl); (case c5 => decide); (case kB => exact locs rfl); (case c2 => exact rfl); (case c3 => exact rfl); (case c4 => exact rfl); k_whole; intro L' h' F' N' l1; (try k_lt l1); (try dsimp only); (try k_fold))
  clear hk hz ht
  have hlen : (tv.map tval).length = tv.length := List.length_map ..
  k_steps
  (rename Fr _ _ _ _ => F9); (rename News _ _ _ _ => N9)
  obtain ⟨t, hx, h0, h1⟩ := lastAt_val (tv := tv) (p := p) (i := if ((tv.map tval).length : Int) - 1 < p then ((tv.map tval).length : Int) - 1 else p) hp hn (by rw [hlen]; split <;> omega)
  refine item_at ⟨_, N9.get (by k_mem), rfl, _, rfl⟩ h0 (by omega) hx ?_
  exact After.intro F9 ⟨fun q hq => (N9 q hq).1, t, rfl⟩
end
-- TSep
section
local macro_rules | `(tactic| walk_at "idle") => `(tactic| skip)
theorem reads_strs {h : Heap} : ∀ tv : List (Str × Tok), ReadsAll h (tv.map tval) (tv.map fun p => PyData.str p.1) []
  | [] => ReadsAll.nil
  | p :: r => by
    have := ReadsAll.cons (Reads.str (h := h) p.1 p.2) (reads_strs r)
    simpa using this
theorem shaped_strs {tv : List (Str × Tok)} (h : ∀ p ∈ tv, Fine p.1) : SeqAt.shaped (.list (tv.map fun p => PyData.str p.1)) = true := by
  have h1 : PyData.canLayAll0 (tv.map fun p => PyData.str p.1) = true := by
    induction tv with
    | nil => simp [PyData.canLayAll0]
    | cons p r ih =>
      have hp : PyData.strOk p.1 = true := h p (.head _)
      have := ih fun q hq => h q (.tail _ hq)
      simp [PyData.canLayAll0, PyData.canLay0, this, hp]
  have h2 : PyData.depthAll (tv.map fun p => PyData.str p.1) ≤ 1 := by
    clear h h1
    induction tv with
    | nil => simp [PyData.depthAll]
    | cons p r ih => simp [PyData.depthAll, PyData.depth]; omega
  show (PyData.canLay0 (.list (tv.map fun p => PyData.str p.1)) && decide (PyData.depth (.list (tv.map fun p => PyData.str p.1)) ≤ 64)) = true
  simp only [PyData.canLay0, PyData.depth, h1, Bool.true_and]
  exact decide_eq_true (by omega)
set_option maxHeartbeats 4000000 in
theorem sep_spec (w : World) (x dx lt lb : Addr) (t1 t2 t3 t4 n n1 : Nat) (bf af : Str × Tok) (tv : List (Str × Tok)) (p : Int) (tp : Nat) (hp : 1 ≤ p) (hp2 : p ≤ 100) (hn2 : tv.length ≤ 100) (hfine : ∀ q ∈ tv, Fine q.1) :
    Spec w 75 [.ref x, .int p tp] (fun _ => True) [(x, instObj 78 dx), (dx, fmtDict w bf af lt lb t1 t2 t3 t4 n), (lb, listOf (tv.map tval).toArray n1)] 12
      (fun _ h' v => (∀ q ∈ [(x, instObj 78 dx), (dx, fmtDict w bf af lt lb t1 t2 t3 t4 n), (lb, listOf (tv.map tval).toArray n1)], h'.get? q.1 = some q.2) ∧ ∃ t, v = .str (if tv = [] then Str.ofString "." else lastAt (tv.map (·.1)) (p - 1)) t) := by
  unfold Spec
  k_fill
  intro mg mb mean dp un gd base g env outer s B X T hk hz hpre ht hd hu
  k_dflt (refine' enter B X T hk hz ht ?k6 ?k7 ?k8 ?k9 ?kB ?_ ?c2 ?c3 ?c4 ?c5; (case k6 => k_is); (case k7 => k_is); (case k8 => ktr_room); (case k9 => exact BindsTo.of_eq rfl); (case c5 => decide); (case kB => exact locs rfl); (case c2 => exact rfl); (case c3 => exact rfl); (case c4 => exact rfl); k_whole; intro L' h' F' N' l1; (try k_lt l1); (try dsimp only); (try k_fold))
  clear hk hz ht
  have hlen : (tv.map tval).length = tv.length := List.length_map ..
  k_steps
  (rename News _ _ _ _ => N9)
  refine eq_nil ⟨_, N9.get (show (lb, _) ∈ _ by k_mem), rfl, _, rfl⟩ (reads_strs tv) (shaped_strs hfine) (N9.get (by k_mem)) (by ke_room) ?_
  cases tv with
  | nil =>
    k_steps
    (rename Fr _ _ _ _ => F9); (rename News _ _ _ _ => N9)
    exact After.intro F9 ⟨fun q hq => (N9 q (.tail _ hq)).1, _, rfl⟩
  | cons q0 r =>
    rw [show ((q0 :: r).map fun p => PyData.str p.1).isEmpty = false from rfl]
    k_steps
    (rename Fr _ _ _ _ => F9); (rename News _ _ _ _ => N9)
    obtain ⟨t, hx, h0, h1⟩ := lastAt_val (tv := q0 :: r) (p := p - 1) (i := if (((q0 :: r).map tval).length : Int) - 1 < p - 1 then (((q0 :: r).map tval).length : Int) - 1 else p - 1) (by omega) (Nat.succ_pos _) (by rw [hlen]; split <;> omega)
    refine item_at ⟨_, N9.get (show (lb, _) ∈ _ by k_mem), rfl, _, rfl⟩ h0 (by omega) hx ?_
    exact After.intro F9 ⟨fun q hq => (N9 q (.tail _ hq)).1, t, rfl⟩
end
section
local macro_rules | `(tactic| walk_at "subscriptTail Name Slice ref ref") => `(tactic| (k_here; (with_reducible show wpAny _ _ (subscriptTail _ (PySem.Expr.Slice _ _ none _) (Value.ref _) (Value.ref _)) _ _ _); k_dflt (refine' kmk_slice_lit ?F ?N ?l ?p ?q ?e ?_ ?s ?t ?z; (case F => k_asm); (case N => k_asm); (case l => kmk_list); (case p => kmk_part); (case q => kmk_part); (case e => first | exact slice_tail _ _ | exact slice_init _ _); (case s => with_unfolding_all rfl); (case t => kmk_pure); (case z => (refine size_ok ?_; simp only [List.length_map, List.length_cons, List.length_append, List.length_nil] at *; omega))); intro D' h' F' N' l1; (try k_lt l1); (try k_sweep)))
-- TOne
section
local macro_rules | `(tactic| walk_at "call ref") => `(tactic| (refine Hold.out ?_))
abbrev src (x y : Int) (tx ty n : Nat) : Obj := listOf [.int x tx, .int y ty].toArray n
structure SrcOk (x y : Int) : Prop where
  x0 : 0 ≤ x
  y0 : 0 ≤ y
  y1 : y < 2147483647
set_option maxHeartbeats 4000000 in
theorem one_spec (w : World) (l lt : Addr) (x y : Int) (tx ty n n1 : Nat) (vs : List Value) (hs : SrcOk x y) (h0 : 0 < vs.length) (h1 : vs.length ≤ 100) (hne : lt ≠ l) :
    Spec w 103 [.ref l, .ref lt] (fun _ => True) [(l, src x y tx ty n), (lt, listOf vs.toArray n1)] 6 (fun _ h' v => ∃ (i : Nat) (x' y' : Int) (tx' ty' n' : Nat), vs[i]? = some v ∧ SrcOk x' y' ∧ h'.get? l = some (src x' y' tx' ty' n') ∧ h'.get? lt = some (listOf vs.toArray n1)) := by
  unfold Spec
  k_fill
  intro mg mb mean dp un gd base g env outer s B X T hk hz hpre ht hd hu
  k_dflt (refine' enter B X T hk hz ht ?k6 ?k7 ?k8 ?k9 ?kB ?_ ?c2 ?c3 ?c4 ?c5; (case k6 => k_is); (case k7 => k_is); (case k8 => ktr_room); (case k9 => exact BindsTo.of_eq rfl); (case c5 => decide); (case kB => exact locs rfl); (case c2 => exact rfl); (case c3 => exact rfl); (case c4 => exact rfl); k_whole; intro L' h' F' N' l1; (try k_lt l1); (try dsimp only); (try k_fold))
  clear hk hz ht
  k_steps
  refine Hold.mk ?_
  (with_unfolding_all refine' use_spec (take_spec w l x y (vs.length : Int) tx ty _ n hs.x0 hs.y0 hs.y1 (by omega) (by omega)) [(lt, listOf vs.toArray n1)] ?B ?F ?X ?T ?N ?hf ?hke ?ht ?hr ?hd (fun _ _ _ => trivial) ?hdp ?hun ?_; (case B => k_asm); (case F => k_asm); (case X => k_asm); (case T => k_asm); (case N => k_asm); (case hf => rfl); (case hke => rfl); (case hdp => ktr_room); (case hun => ktr_units))
  case ht => exact List.forall_mem_cons.mpr ⟨by k_mem, List.forall_mem_nil _⟩
  case hr => exact List.forall_mem_cons.mpr ⟨by k_mem, List.forall_mem_nil _⟩
  case hd => exact List.forall_mem_cons.mpr ⟨List.forall_mem_cons.mpr ⟨hne, List.forall_mem_nil _⟩, List.forall_mem_nil _⟩
  rintro g2 h2 tk2 v2 F2 N2 hfr ⟨r, t2, x2, tx2, y2, ty2, n2, rfl, r0, r1, x0, y0, y1, hl⟩
  k_steps
  have hr : r.toNat < vs.length := by omega
  refine item_at ⟨_, N2.get (by k_mem), rfl, _, rfl⟩ r0 (by omega) (List.getElem?_eq_getElem hr) ?_
  exact After.intro F2 ⟨r.toNat, x2, y2, tx2, ty2, n2, List.getElem?_eq_getElem hr, ⟨x0, y0, y1⟩, hl, N2.get (.head _)⟩
end
-- TLRoman
section
local macro_rules | `(tactic| walk_at "ItemsRest") => `(tactic| (refine Hold.out ?_))
local macro_rules | `(tactic| walk_at "subscriptTail Name BinOp ref int") => `(tactic| (refine Hold.out ?_))
local macro_rules | `(tactic| walk_at "exec For Name Subscript cons nil") => `(tactic| (k_here; (rename Fr _ _ _ _ => lF'); (with_unfolding_all refine' For_invVF lF' ?k1 ?k2 ?_; (case k1 => exact rfl); (case k2 => exact rfl); k_whole)))
def lromanDef : Stmt := nthS PySem.Challenge.pw_xm0631_01.main.body 10
def lromanScope : Scope := scopeOf lromanDef
def lromanFor : Stmt := nthS (bodyOf lromanDef) 1
def lromanInner : Stmt := nthS (bodyOf lromanFor) 0
def formOf (d : Nat) : Str := ([Str.ofString "", Str.ofString "0", Str.ofString "00", Str.ofString "000", Str.ofString "01", Str.ofString "1", Str.ofString "10", Str.ofString "100", Str.ofString "1000", Str.ofString "02"] : List Str).getD d (Str.ofString "")
def mapSign (o fv tn : Str) (c : Nat) : Str := if c = 48 then o else if c = 49 then fv else tn
def digs (o fv tn : Str) (cs : List Nat) (f : Str) : Str := cs.foldl (fun a c => a ++ mapSign o fv tn c) f
theorem digs_snoc (o fv tn : Str) (cs : List Nat) (c : Nat) (f : Str) : digs o fv tn (cs ++ [c]) f = digs o fv tn cs f ++ mapSign o fv tn c := by simp [digs, List.foldl_append]
theorem formOf_codes : ∀ d < 10, (∀ c ∈ (formOf d).cps.toList, c = 48 ∨ c = 49 ∨ c = 50) ∧ (formOf d).cps.toList.length ≤ 4 := by decide +kernel
theorem digs_len {o fv tn : Str} (ho : o.length ≤ 1) (hf : fv.length ≤ 1) (ht : tn.length ≤ 1) (cs : List Nat) : ∀ f : Str, (digs o fv tn cs f).length ≤ f.length + cs.length := by
  induction cs with
  | nil => intro f; exact Nat.le_refl _
  | cons c r ih =>
    intro f
    have h := ih (f ++ mapSign o fv tn c)
    have h2 : (mapSign o fv tn c).length ≤ 1 := by unfold mapSign; split; exact ho; split; exact hf; exact ht
    rw [Str.length_append] at h
    show (digs o fv tn r (f ++ mapSign o fv tn c)).length ≤ _
    rw [List.length_cons]
    omega
set_option maxHeartbeats 4000000 in
theorem lroman_inner {w : World} {dp un : Nat} {gd : Option (List Code)} {env : Env} {outer : List Env} {g : Heap} {L lf : Addr} {m : Str → Option Value} {s : Shared} {news : List (Addr × Obj)} {k W : Int} {f o fv tn : Str} {tk1 tk2 tk3 tk4 tk5 tk6 nf : Nat} {forms : List Value} {Q : Flow → Shared → Prop} {mg mb : Str → Option Value} {mean : ExcName → Option Value}
    (X : (Mine.hd.heap_39 w.params).In g) (T : Top Mine.hd.view_39 (looseW Mine.hd.view_39 []) mean mg mb g) (hd : dp + 5 < recursionLimit) (hu : un + 8 * 5 < cLine) (F : Fr g L s.heap m) (N : News g L s.heap news) (h1 : m "number" = some (.int k tk1)) (h2 : m "worth" = some (.int W tk2)) (h3 : m "forms" = some (.ref lf)) (h4 : m "found" = some (.str f tk3)) (h5 : m "one" = some (.str o tk4)) (h6 : m "five" = some (.str fv tk5)) (h7 : m "ten" = some (.str tn tk6))
    (hlf : (lf, listOf forms.toArray nf) ∈ news) (hforms : ∀ d < 10, ∃ t, forms[d]? = some (.str (formOf d) t)) (hW : 0 < W) (hW2 : W ≤ 1000) (hk : 0 ≤ k) (hk2 : k < 40000) (hf : f.length ≤ 1000) (ho : o.length ≤ 1) (hfv : fv.length ≤ 1) (htn : tn.length ≤ 1)
    (K : ∀ h' tk' m' t, Fr g L h' m' → News g L h' news → m' "found" = some (.str (digs o fv tn (formOf ((k.fdiv W).fmod 10).toNat).cps.toList f) t) → (∀ y : Str, y ≠ "found" → y ≠ "sign" → m' y = m y) → Q .next { s with heap := h', toks := tk' }) :
    wpAny (model PySem.Challenge.rw_xm0631_01.row.prog w) ({ handled := none, depth := dp, frames := some (env :: outer), guards := gd, units := un } : Around) (exec lromanInner (envOf "_law_roman" lromanScope L 110 (.ref 109))) Q (fun _ _ => False) s := by
  revert X; k_fill; intro X
  with_unfolding_all show wpAny _ _ (exec (Stmt.For _ _ _ _ _) _) _ _ _
  (try k_fold)
  k_steps
  refine Hold.mk ?_
  have hd0 : 0 ≤ (k.fdiv W).fmod 10 := fm_0 _ _ (by decide)
  have hd1 : (k.fdiv W).fmod 10 < 10 := fm_lt _ _ (by decide)
  have hd2 : ((k.fdiv W).fmod 10).toNat < 10 := by omega
  obtain ⟨tf, htf⟩ := hforms _ hd2
  (rename Fr _ _ _ _ => F9); (rename News _ _ _ _ => N9)
  refine item_at ⟨_, N9.get hlf, rfl, _, rfl⟩ hd0 (by omega) htf ?_
  obtain ⟨hcodes, hlen4⟩ := formOf_codes _ hd2
  generalize formOf ((k.fdiv W).fmod 10).toNat = fm at *
  k_steps
  refine Hold.mk ?_
  with_unfolding_all refine iter_str (fun i m' nx => nx = news ∧ (∃ t, m' "found" = some (.str (digs o fv tn (fm.cps.toList.take i) f) t)) ∧ (∀ y : Str, y ≠ "found" → y ≠ "sign" → m' y = m y)) rfl F9 N9 ⟨rfl, ⟨_, h4⟩, fun _ _ _ => rfl⟩ ?_ ?_
  · rintro i c tc m₁ nx h tk I oI hc ⟨rfl, ⟨t1, hfound⟩, hrest⟩ F1 N1 hn1
    clear F9 N9
    have hone : m₁ "one" = some (.str o tk4) := (hrest _ (by decide) (by decide)).trans h5
    have hfive : m₁ "five" = some (.str fv tk5) := (hrest _ (by decide) (by decide)).trans h6
    have hten : m₁ "ten" = some (.str tn tk6) := (hrest _ (by decide) (by decide)).trans h7
    have hcm : c ∈ fm.cps.toList := by rw [Array.mem_toList_iff]; exact Array.mem_of_getElem? hc
    have hdl := digs_len ho hfv htn (fm.cps.toList.take i) f
    have htl : (fm.cps.toList.take i).length ≤ 4 := Nat.le_trans (by rw [List.length_take]; exact Nat.min_le_right _ _) hlen4
    rcases hcodes c hcm with rfl | rfl | rfl
    · (try k_fold)
      k_steps
      (rename Fr _ _ _ _ => F9); (rename News _ _ _ _ => N9)
      have e : digs o fv tn (fm.cps.toList.take i) f ++ o = digs o fv tn (fm.cps.toList.take (i + 1)) f := by rw [take_snoc hc, digs_snoc]; rfl
      exact TurnPost.next F9 (news_sub N9 fun p hp => .tail _ hp) hn1 ⟨rfl, ⟨_, congrArg (fun z => some (Value.str z _)) e⟩, fun y n1 n2 => by dsimp only; rw [if_neg n1, if_neg n2]; exact hrest y n1 n2⟩
    · (try k_fold)
      k_steps
      (rename Fr _ _ _ _ => F9); (rename News _ _ _ _ => N9)
      have e : digs o fv tn (fm.cps.toList.take i) f ++ fv = digs o fv tn (fm.cps.toList.take (i + 1)) f := by rw [take_snoc hc, digs_snoc]; rfl
      exact TurnPost.next F9 (news_sub N9 fun p hp => .tail _ hp) hn1 ⟨rfl, ⟨_, congrArg (fun z => some (Value.str z _)) e⟩, fun y n1 n2 => by dsimp only; rw [if_neg n1, if_neg n2]; exact hrest y n1 n2⟩
    · (try k_fold)
      k_steps
      (rename Fr _ _ _ _ => F9); (rename News _ _ _ _ => N9)
      have e : digs o fv tn (fm.cps.toList.take i) f ++ tn = digs o fv tn (fm.cps.toList.take (i + 1)) f := by rw [take_snoc hc, digs_snoc]; rfl
      exact TurnPost.next F9 (news_sub N9 fun p hp => .tail _ hp) hn1 ⟨rfl, ⟨_, congrArg (fun z => some (Value.str z _)) e⟩, fun y n1 n2 => by dsimp only; rw [if_neg n1, if_neg n2]; exact hrest y n1 n2⟩
  · rintro m₁ nx h tk ⟨rfl, ⟨t1, hfound⟩, hrest⟩ F1 N1
    refine K _ _ _ t1 F1 N1 ?_ hrest
    rw [hfound, ← Array.length_toList, List.take_length]
end
-- TLRoman2
section
local macro_rules | `(tactic| walk_at "idle") => `(tactic| skip)
local macro_rules | `(tactic| walk_at "ItemsRest") => `(tactic| (refine Hold.out ?_))
local macro_rules | `(tactic| walk_at "exec For Name Subscript cons nil") => `(tactic| (refine Hold.out ?_))
local macro_rules | `(tactic| walk_at "UnrPostW") => `(tactic| (refine Hold.out ?_))
structure LItem where
  a : Addr
  o : Str
  fv : Str
  tn : Str
  W : Int
def lstep (k : Int) (f : Str) (r : LItem) : Str := digs r.o r.fv r.tn (formOf ((k.fdiv r.W).fmod 10).toNat).cps.toList f
structure LItem.Ok (r : LItem) (news : List (Addr × Obj)) : Prop where
  mem : ∃ t1 t2 t3 t4 n, (r.a, ({ cls := .type "tuple", data := .seq [.str r.o t1, .str r.fv t2, .str r.tn t3, .int r.W t4].toArray n } : Obj)) ∈ news
  pos : 0 < r.W
  small : r.W ≤ 1000
  ho : r.o.length ≤ 1
  hfv : r.fv.length ≤ 1
  htn : r.tn.length ≤ 1
theorem lstep_len (k : Int) (f : Str) (r : LItem) (news : List (Addr × Obj)) (h : r.Ok news) : (lstep k f r).length ≤ f.length + 4 := by
  have h1 := digs_len h.ho h.hfv h.htn (formOf ((k.fdiv r.W).fmod 10).toNat).cps.toList f
  have h2 := (formOf_codes _ (show ((k.fdiv r.W).fmod 10).toNat < 10 by have := fm_0 (k.fdiv r.W) 10 (by decide); have := fm_lt (k.fdiv r.W) 10 (by decide); omega)).2
  unfold lstep
  omega
set_option maxHeartbeats 4000000 in
theorem lroman_items {w : World} {dp un : Nat} {gd : Option (List Code)} {env : Env} {outer : List Env} {g : Heap} {L lf I : Addr} {s : Shared} {news keep : List (Addr × Obj)} {k : Int} {tk1 nf : Nat} {forms : List Value} {Q : Flow → Shared → Prop} {mg mb : Str → Option Value} {mean : ExcName → Option Value}
    (X : (Mine.hd.heap_39 w.params).In g) (T : Top Mine.hd.view_39 (looseW Mine.hd.view_39 []) mean mg mb g) (hd : dp + 5 < recursionLimit) (hu : un + 8 * 5 < cLine)
    (hlf : (lf, listOf forms.toArray nf) ∈ news) (hforms : ∀ d < 10, ∃ t, forms[d]? = some (.str (formOf d) t)) (hk : 0 ≤ k) (hk2 : k < 40000) (hI : ∀ p ∈ news, p.1 ≠ I) (hkeep : SubL keep news) :
    ∀ (rs : List LItem) (m : Str → Option Value) (f : Str) (tf : Tok), (∀ r ∈ rs, r.Ok news) → m "number" = some (.int k tk1) → m "forms" = some (.ref lf) → m "found" = some (.str f tf) → f.length + 4 * rs.length ≤ 1000 →
    (∀ h tk m' t, Fr g L h m' → News g L h news → m' "found" = some (.str (rs.foldl (lstep k) f) t) → Q .next { s with heap := h, toks := tk }) →
    ItemsRest PySem.Challenge.rw_xm0631_01.row.prog w ({ handled := none, depth := dp, frames := some (env :: outer), guards := gd, units := un } : Around) (fun _ _ => False) g (envOf "_law_roman" lromanScope L 110 (.ref 109)) (targetOf lromanFor) (bodyOf lromanFor) Q s [(I, "list_iterator")] keep (rs.map fun r => .val (.ref r.a)) m news := by
  intro rs
  induction rs with
  | nil => exact fun m f tf _ _ _ hf _ k => ItemsRest.zero fun h tk F N => k h tk m tf F N hf
  | cons r rs ih =>
    intro m f tf hrs hnumber hforms' hfound hsz K
    refine ItemsRest.val fun h tk F => AllObj.cons fun oI hoI => AllObj.nil fun N => ?_
    have hr := hrs r (.head _)
    obtain ⟨t1, t2, t3, t4, n, hmem⟩ := hr.mem
    have hrs' : ∀ q ∈ rs, q.Ok news := fun q hq => hrs q (.tail _ hq)
    rw [List.length_cons] at hsz
    with_unfolding_all refine unpackN_ F N ⟨_, N.get (.tail _ hmem), rfl, n, rfl⟩ rfl rfl rfl fun h' F' N' => ?_
    clear F N
    k_fill
    (try k_fold)
    k_steps
    refine Hold.mk ?_
    (rename Fr _ _ _ _ => F9); (rename News _ _ _ _ => N9)
    with_unfolding_all refine lroman_inner (k := k) (W := r.W) (f := f) (o := r.o) (fv := r.fv) (tn := r.tn) X T hd hu F9 N9 hnumber rfl hforms' hfound rfl rfl rfl (.tail _ hlf) hforms hr.pos hr.small hk hk2 (by omega) hr.ho hr.hfv hr.htn ?_
    intro h2 tk2 m2 t2' F2 N2 hf2 hrest2
    clear F9 N9
    have hl2 := lstep_len k f r news hr
    (try dsimp only)
    k_steps
    refine Hold.mk ?_
    exact ⟨_, _, m2, news, rfl, F2, N2, fun p hp q hq => by rw [List.mem_singleton.mp hq]; exact hI p hp, hkeep,
      ih m2 (lstep k f r) t2' hrs' ((hrest2 _ (by decide) (by decide)).trans hnumber) ((hrest2 _ (by decide) (by decide)).trans hforms') hf2 (by omega) K⟩
def lritems (a b c : Addr) : List LItem := [⟨a, "c", "d", "m", 100⟩, ⟨b, "x", "l", "c", 10⟩, ⟨c, "i", "v", "x", 1⟩]
def lromanF (k : Int) : Str := (lritems 0 0 0).foldl (lstep k) (Txt.mul (Str.ofString "m") (k.fdiv 1000))
theorem lromanF_eq (k : Int) (a b c : Addr) : (lritems a b c).foldl (lstep k) (Txt.mul (Str.ofString "m") (k.fdiv 1000)) = lromanF k := rfl
/-- a goal that nothing unfolds -/
structure Lock (P : Prop) : Prop where
  out : P
theorem For_turnsL {prog : Program} {w : World} {A : Around} {E : Value → Shared → Prop} {s : Shared} {env : Env} {h₀ : Heap} {target iter : PySem.Expr} {body : List Stmt} {Q : Flow → Shared → Prop} {pos : Pos} {m : Str → Option Value} (F : Fr h₀ env.locals s.heap m)
    (h : wpAny (model prog w) A (eval iter env) (fun xv s₁ => wpAny (model prog w) A (pyIter xv) (fun it s₂ => TurnsAt prog w A h₀ env target body Q E it s₂) E s₁) E s)
    (hs : ∀ x, foldedSetIterable iter env x = pure x) (hE : PassesOwn (model prog w) A env E) :
    Lock (wpAny (model prog w) A (exec (.For target iter body [] pos) env) Q E s) := Lock.mk (For_turns F h hs hE)
local macro_rules | `(tactic| walk_at "exec For Tuple List cons nil") => `(tactic| (refine Hold.out ?_))
theorem iter_listL {prog : Program} {w : World} {A : Around} {E : Value → Shared → Prop} {s : Shared} {env : Env} {h₀ : Heap} {target : PySem.Expr} {body : List Stmt} {Q : Flow → Shared → Prop} {ax : Addr} {lo : Obj} {vs : List Value} {n : Nat} {m₀ : Str → Option Value} {news : List (Addr × Obj)}
    (hh : A.handled = none) (F : Fr h₀ env.locals s.heap m₀) (N : News h₀ env.locals s.heap news) (hm : (ax, lo) ∈ news) (hc : lo.cls = .type "list") (hd : lo.data = .seq vs.toArray n)
    (r : ∀ I : Addr, (∀ p ∈ news, p.1 < I) → ItemsRest prog w A E h₀ env target body Q s [(I, "list_iterator")] [(ax, lo)] (vs.map .val) m₀ news) :
    Lock (wpAny (model prog w) A (pyIter (.ref ax)) (fun it s₂ => TurnsAt prog w A h₀ env target body Q E it s₂) E s) := Lock.mk (iter_listTurns hh F N hm hc hd r)
local macro_rules | `(tactic| walk_at "pyIter ref") => `(tactic| (refine Hold.out ?_))
set_option maxHeartbeats 4000000 in
theorem lroman_spec (w : World) (k : Int) (t : Nat) (hk : 0 ≤ k) (hk2 : k < 40000) : Spec w 110 [.int k t] (fun _ => True) [] 10 (fun _ _ v => ∃ t, v = .str (lromanF k) t) := by
  unfold Spec
  k_fill
  intro mg mb mean dp un gd base g env outer s B X T hk hz hpre ht hd hu
  k_dflt (refine' enter B X T hk hz ht ?k6 ?k7 ?k8 ?k9 ?kB ?_ ?c2 ?c3 ?c4 ?c5; (case k6 => k_is); (case k7 => k_is); (case k8 => ktr_room); (case k9 => exact BindsTo.of_eq rfl); (case c5 => decide); (case kB => exact locs rfl); (case c2 => exact rfl); (case c3 => exact rfl); (case c4 => exact rfl); k_whole; intro L' h' F' N' l1; (try k_lt l1); (try dsimp only); (try k_fold))
  clear hk hz ht
  k_steps
  refine Hold.mk ?_
  (rename Fr _ _ _ _ => lF9)
  (with_reducible refine Lock.out ?_)
  k_dflt (refine' For_turnsL lF9 ?_ ?hs ?hE; (case hs => (intro _; rfl)); (case hE => passes_own))
  k_whole
  k_steps
  refine Hold.mk ?_
  (rename Fr _ _ _ _ => lF9); (rename News _ _ _ _ => lN9)
  (with_reducible refine Lock.out ?_)
  k_dflt (refine' iter_listL ?hh lF9 lN9 (.head _) ?hc ?hd ?_; (case hh => exact rfl); (case hc => exact rfl); (case hd => exact rfl))
  clear lF9
  intro i9 l9
  (try k_lt l9)
  have hq0 : 0 ≤ k.fdiv 1000 := fd_0 _ _ hk (by decide)
  have hq1 : k.fdiv 1000 < 40 := by rw [Int.fdiv_eq_ediv_of_nonneg _ (by decide)]; omega
  (rename (0 ≤ k.fdiv 1000 → _) => hml)
  have hml2 := hml hq0
  with_unfolding_all refine lroman_items (forms := ?fo) (nf := ?nf) (I := _) (k := k) X T (by show dp + 1 + 5 < recursionLimit; omega) (by show un + 3 + 8 * 5 < cLine; omega) ?hlf ?hforms hk hk2 ?hI ?hkeep (lritems _ _ _) _ (Txt.mul (Str.ofString "m") (k.fdiv 1000)) _ ?hrs rfl rfl rfl ?hsz ?k
  case hlf => k_mem
  case hforms =>
    intro d hd
    have h10 : d = 0 ∨ d = 1 ∨ d = 2 ∨ d = 3 ∨ d = 4 ∨ d = 5 ∨ d = 6 ∨ d = 7 ∨ d = 8 ∨ d = 9 := by omega
    rcases h10 with rfl | rfl | rfl | rfl | rfl | rfl | rfl | rfl | rfl | rfl <;> exact ⟨_, rfl⟩
  case hI => k_all
  case hkeep => exact ⟨by k_mem, trivial⟩
  case hrs =>
    refine List.forall_mem_cons.mpr ⟨⟨⟨_, _, _, _, _, by k_mem⟩, (show (0 : Int) < 100 by decide), (show (100 : Int) ≤ 1000 by decide), (show (Str.ofString "c").length ≤ 1 by decide), (show (Str.ofString "d").length ≤ 1 by decide), (show (Str.ofString "m").length ≤ 1 by decide)⟩, List.forall_mem_cons.mpr ⟨⟨⟨_, _, _, _, _, by k_mem⟩, (show (0 : Int) < 10 by decide), (show (10 : Int) ≤ 1000 by decide), (show (Str.ofString "x").length ≤ 1 by decide), (show (Str.ofString "l").length ≤ 1 by decide), (show (Str.ofString "c").length ≤ 1 by decide)⟩, List.forall_mem_cons.mpr ⟨⟨⟨_, _, _, _, _, by k_mem⟩, (show (0 : Int) < 1 by decide), (show (1 : Int) ≤ 1000 by decide), (show (Str.ofString "i").length ≤ 1 by decide), (show (Str.ofString "v").length ≤ 1 by decide), (show (Str.ofString "x").length ≤ 1 by decide)⟩, List.forall_mem_nil _⟩⟩⟩
  case hsz =>
    show (Txt.mul (Str.ofString "m") (k.fdiv 1000)).length + 4 * 3 ≤ 1000
    omega
  case k =>
    intro h tk m' t F9 N9 e9
    (try k_fold)
    k_steps
    exact After.intro F9 ⟨t, by rw [lromanF_eq]⟩
end
-- TUse
section
theorem split_perm {pre post : List (Addr × Obj)} {q : Addr × Obj} : ∀ p ∈ pre ++ q :: post, p ∈ q :: (pre ++ post) := fun p hp => by
  rcases List.mem_append.mp hp with h | h
  · exact .tail _ (List.mem_append_left _ h)
  · rcases List.mem_cons.mp h with rfl | h
    · exact .head _
    · exact .tail _ (List.mem_append_right _ h)
theorem split_rest {pre post : List (Addr × Obj)} {q : Addr × Obj} (h1 : ∀ p ∈ pre, p.1 ≠ q.1) (h2 : ∀ p ∈ post, p.1 ≠ q.1) : ∀ p ∈ pre ++ post, p ∈ pre ++ q :: post ∧ p.1 ≠ q.1 := fun p hp => by
  rcases List.mem_append.mp hp with h | h
  · exact ⟨List.mem_append_left _ h, h1 p h⟩
  · exact ⟨List.mem_append_right _ (.tail _ h), h2 p h⟩
theorem take_use {w : World} {dp un : Nat} {gd : Option (List Code)} {env : Env} {outer : List Env} {A₀ : Around} {base h₀ : Heap} {L l : Addr} {m : Str → Option Value} {s : Shared} {news : List (Addr × Obj)} {Q E : Value → Shared → Prop} {mg mb : Str → Option Value} {mean : ExcName → Option Value}
    {x y top : Int} {tx ty tt n : Nat} {G : Obj → List (Addr × Obj)} (hs : SrcOk x y) (h0 : 0 < top) (h1 : top ≤ 1000000)
    (B : Below A₀ base outer h₀) (F : Fr h₀ L s.heap m) (X : (Mine.hd.heap_39 w.params).In h₀) (T : Top Mine.hd.view_39 (looseW Mine.hd.view_39 []) mean mg mb h₀) (N : News h₀ L s.heap news)
    (hf : env.frame = some L) (hke : env.scope.kind = .function) (U : UpdF l (src x y tx ty n) news G)
    (hdp : dp + 2 < recursionLimit) (hun : un + 8 * 2 < cLine)
    (k : ∀ h' tk' r t x' y' tx' ty' n', Fr h₀ L h' m → News h₀ L h' (G (src x' y' tx' ty' n')) → SrcOk x' y' → 0 ≤ r → r < top → Q (.int r t) { s with heap := h', toks := tk' }) :
    wpAny (model PySem.Challenge.rw_xm0631_01.row.prog w) { handled := none, depth := dp, frames := some (env :: outer), guards := gd, units := un } (call (.ref 96) [.ref l, .int top tt]) Q E s := by
  obtain ⟨pre, post, rfl, hG, a, b⟩ := U.split
  have ht : (l, src x y tx ty n) ∈ pre ++ (l, src x y tx ty n) :: post := List.mem_append_right _ (.head _)
  have hr := split_rest (q := (l, src x y tx ty n)) a b
  refine use_spec (take_spec w l x y top tx ty tt n hs.x0 hs.y0 hs.y1 h0 h1) (pre ++ post) B F X T N hf hke (List.forall_mem_cons.mpr ⟨ht, List.forall_mem_nil _⟩) (fun p hp => (hr p hp).1) (fun p hp => List.forall_mem_cons.mpr ⟨(hr p hp).2, List.forall_mem_nil _⟩) (fun _ _ _ => trivial) hdp hun ?_
  rintro g2 h2 tk2 v2 F2 N2 hfr ⟨r, t2, x2, tx2, y2, ty2, n2, rfl, r0, r1, x0, y0, y1, hl⟩
  have hl2 := N _ ht
  exact k _ _ r t2 x2 y2 tx2 ty2 n2 F2 (by rw [hG]; exact news_sub (news_cons N2 hl ⟨hl2.2.1, hl2.2.2⟩) split_perm) ⟨x0, y0, y1⟩ r0 r1
theorem one_use {w : World} {dp un : Nat} {gd : Option (List Code)} {env : Env} {outer : List Env} {A₀ : Around} {base h₀ : Heap} {L l lt : Addr} {m : Str → Option Value} {s : Shared} {news : List (Addr × Obj)} {Q E : Value → Shared → Prop} {mg mb : Str → Option Value} {mean : ExcName → Option Value}
    {x y : Int} {tx ty n n1 : Nat} {vs : List Value} {G : Obj → List (Addr × Obj)} (P : Value → Prop) (hP : ∀ v ∈ vs, P v) (hs : SrcOk x y) (h0 : 0 < vs.length) (h1 : vs.length ≤ 100)
    (B : Below A₀ base outer h₀) (F : Fr h₀ L s.heap m) (X : (Mine.hd.heap_39 w.params).In h₀) (T : Top Mine.hd.view_39 (looseW Mine.hd.view_39 []) mean mg mb h₀) (N : News h₀ L s.heap news)
    (hf : env.frame = some L) (hke : env.scope.kind = .function) (U : UpdF l (src x y tx ty n) news G) (hlt : (lt, listOf vs.toArray n1) ∈ news) (hne : @Ne Nat lt l)
    (hdp : dp + 6 < recursionLimit) (hun : un + 8 * 6 < cLine)
    (k : ∀ h' tk' v x' y' tx' ty' n', Fr h₀ L h' m → News h₀ L h' (G (src x' y' tx' ty' n')) → SrcOk x' y' → P v → Q v { s with heap := h', toks := tk' }) :
    wpAny (model PySem.Challenge.rw_xm0631_01.row.prog w) { handled := none, depth := dp, frames := some (env :: outer), guards := gd, units := un } (call (.ref 103) [.ref l, .ref lt]) Q E s := by
  obtain ⟨pre, post, rfl, hG, a, b⟩ := U.split
  have ht : (l, src x y tx ty n) ∈ pre ++ (l, src x y tx ty n) :: post := List.mem_append_right _ (.head _)
  have hr := split_rest (q := (l, src x y tx ty n)) a b
  refine use_spec (one_spec w l lt x y tx ty n n1 vs hs h0 h1 hne) ((pre ++ post).filter fun p => p.1 != lt) B F X T N hf hke (List.forall_mem_cons.mpr ⟨ht, List.forall_mem_cons.mpr ⟨hlt, List.forall_mem_nil _⟩⟩) (fun p hp => (hr p (List.mem_filter.mp hp).1).1)
    (fun p hp => List.forall_mem_cons.mpr ⟨(hr p (List.mem_filter.mp hp).1).2, List.forall_mem_cons.mpr ⟨bne_iff_ne.mp (List.mem_filter.mp hp).2, List.forall_mem_nil _⟩⟩) (fun _ _ _ => trivial) hdp hun ?_
  rintro g2 h2 tk2 v2 F2 N2 hfr ⟨i, x2, y2, tx2, ty2, n2, hv, hs2, hl, hl2⟩
  have e1 := N _ ht
  have e2 := N _ hlt
  refine k _ _ v2 x2 y2 tx2 ty2 n2 F2 ?_ hs2 (hP _ (List.mem_of_getElem? hv))
  rw [hG]
  have N3 := news_cons N2 hl ⟨e1.2.1, e1.2.2⟩
  intro p hp
  rcases List.mem_cons.mp (split_perm p hp) with rfl | h
  · exact N3 _ (.head _)
  · by_cases hc : p.1 = lt
    · have hm := hr p h
      have h5 := (N p hm.1).1
      rw [hc, e2.1] at h5
      refine ⟨?_, (N p hm.1).2⟩
      rw [hc, ← Option.some.inj h5]; exact hl2
    · exact N3 p (.tail _ (List.mem_filter.mpr ⟨h, bne_iff_ne.mpr hc⟩))
end
-- TRomEq
section
def cl (x : Str) : List Nat := x.cps.toList
theorem cl_app (a b : Str) : cl (a ++ b) = cl a ++ cl b := by unfold cl; rw [Str.cps_append, Array.toList_append]
theorem cl_inj {a b : Str} (h : cl a = cl b) : a = b := Str.ext' (Array.toList_inj.mp h)
def repL (n : Nat) (l : List Nat) : List Nat := (List.replicate n l).flatten
theorem cl_rep (n : Nat) (x : Str) : cl (rep n x) = repL n (cl x) := by
  induction n with
  | zero => rfl
  | succ n ih => rw [rep, cl_app, ih, repL, repL, List.replicate_succ', List.flatten_append]; simp
def stepN (s : Nat × List Nat) (r : Nat × List Nat) : Nat × List Nat := (s.1 % r.1, s.2 ++ repL (s.1 / r.1) r.2)
theorem rq_nat (a W : Nat) (hW : 0 < W) : rq (a : Int) (W : Int) = a / W := by
  unfold rq
  split
  · rw [← Int.natCast_ediv, Int.toNat_natCast]
  · rename_i h
    exact (Nat.div_eq_of_lt (by omega)).symm
theorem rNum_nat (a W : Nat) (hW : 0 < W) : rNum (a : Int) (W : Int) = ((a % W : Nat) : Int) := by
  unfold rNum
  rw [rq_nat a W hW]
  have h := Nat.div_add_mod a W
  have h2 : ((a / W : Nat) : Int) * (W : Int) = ((W * (a / W) : Nat) : Int) := by rw [Int.natCast_mul]; exact Int.mul_comm _ _
  rw [h2]; omega
theorem fold_sim : ∀ (rs : List (Nat × Str)) (a : Nat) (f : Str), (∀ r ∈ rs, 0 < r.1) → cl ((rs.map fun r => ((r.1 : Int), r.2)).foldl romStep ((a : Int), f)).2 = ((rs.map fun r => (r.1, cl r.2)).foldl stepN (a, cl f)).2
  | [], _, _, _ => rfl
  | r :: rs, a, f, h => by
    have hr := h r (.head _)
    have e : romStep ((a : Int), f) ((r.1 : Int), r.2) = (((a % r.1 : Nat) : Int), f ++ rep (a / r.1) r.2) := by
      show (rNum (a : Int) (r.1 : Int), rFound (a : Int) (r.1 : Int) f r.2) = _
      rw [rNum_nat a r.1 hr]
      unfold rFound
      rw [rq_nat a r.1 hr]
    rw [List.map_cons, List.map_cons, List.foldl_cons, List.foldl_cons, e, fold_sim rs _ _ fun q hq => h q (.tail _ hq), cl_app, cl_rep]
    rfl
theorem fold_pre : ∀ (rs : List (Nat × List Nat)) (a : Nat) (l : List Nat), (rs.foldl stepN (a, l)).2 = l ++ (rs.foldl stepN (a, [])).2
  | [], _, l => by simp
  | r :: rs, a, l => by
    rw [List.foldl_cons, List.foldl_cons]
    show (rs.foldl stepN (a % r.1, l ++ repL (a / r.1) r.2)).2 = l ++ (rs.foldl stepN (a % r.1, [] ++ repL (a / r.1) r.2)).2
    rw [fold_pre rs _ (l ++ _), fold_pre rs _ ([] ++ _)]
    simp
def rs12 : List (Nat × Str) := [(900, "cm"), (500, "d"), (400, "cd"), (100, "c"), (90, "xc"), (50, "l"), (40, "xl"), (10, "x"), (9, "ix"), (5, "v"), (4, "iv"), (1, "i")]
def rs12L : List (Nat × List Nat) := [(900, [99, 109]), (500, [100]), (400, [99, 100]), (100, [99]), (90, [120, 99]), (50, [108]), (40, [120, 108]), (10, [120]), (9, [105, 120]), (5, [118]), (4, [105, 118]), (1, [105])]
def formL (d : Nat) : List Nat := [[], [48], [48, 48], [48, 48, 48], [48, 49], [49], [49, 48], [49, 48, 48], [49, 48, 48, 48], [48, 50]].getD d []
def signL (o fv tn c : Nat) : Nat := if c = 48 then o else if c = 49 then fv else tn
def DL (o fv tn W n : Nat) : List Nat := (formL (n / W % 10)).map (signL o fv tn)
theorem digits_table : ∀ r < 1000, (rs12L.foldl stepN (r, [])).2 = DL 99 100 109 100 r ++ DL 120 108 99 10 r ++ DL 105 118 120 1 r := by decide +kernel
theorem rs12_eq : rs12.map (fun r => (r.1, cl r.2)) = rs12L := rfl
theorem form_eq : ∀ d < 10, cl (formOf d) = formL d := by decide +kernel
theorem cl_digs (o fv tn : Nat) (cs : List Nat) : ∀ f : Str, cl (digs ⟨#[o]⟩ ⟨#[fv]⟩ ⟨#[tn]⟩ cs f) = cl f ++ cs.map (signL o fv tn) := by
  induction cs with
  | nil => intro f; simp [digs]
  | cons c r ih =>
    intro f
    show cl (digs _ _ _ r (f ++ mapSign _ _ _ c)) = _
    rw [ih, cl_app]
    have : cl (mapSign ⟨#[o]⟩ ⟨#[fv]⟩ ⟨#[tn]⟩ c) = [signL o fv tn c] := by unfold mapSign signL; split; rfl; split <;> rfl
    rw [this]; simp
theorem lstep_cl (n : Nat) (f : Str) (a : Addr) (o fv tn W : Nat) (hW : 0 < W) : cl (lstep (n : Int) f ⟨a, ⟨#[o]⟩, ⟨#[fv]⟩, ⟨#[tn]⟩, (W : Int)⟩) = cl f ++ DL o fv tn W n := by
  unfold lstep
  have e : (((n : Int).fdiv (W : Int)).fmod 10).toNat = n / W % 10 := by
    rw [Int.fdiv_eq_ediv_of_nonneg _ (by omega), Int.fmod_eq_emod_of_nonneg _ (by decide), ← Int.natCast_ediv]
    omega
  dsimp only
  rw [e, cl_digs]
  have hd : n / W % 10 < 10 := Nat.mod_lt _ (by decide)
  rw [show (formOf (n / W % 10)).cps.toList = formL (n / W % 10) from form_eq _ hd]
  rfl
theorem roman_law (z : Int) (h0 : 0 < z) : romanF z = lromanF z := by
  obtain ⟨n, rfl⟩ := Int.eq_ofNat_of_zero_le (Int.le_of_lt h0)
  apply cl_inj
  have e1 : romanF (n : Int) = ((((1000, "m") :: rs12 : List (Nat × Str)).map fun r => ((r.1 : Int), r.2)).foldl romStep ((n : Int), Str.ofString "")).2 := rfl
  rw [e1, fold_sim _ _ _ (by intro r hr; revert r hr; decide), List.map_cons, List.foldl_cons, rs12_eq]
  show (rs12L.foldl stepN (n % 1000, cl (Str.ofString "") ++ repL (n / 1000) [109])).2 = _
  rw [fold_pre, digits_table _ (Nat.mod_lt _ (by decide))]
  have e2 : lromanF (n : Int) = lstep n (lstep n (lstep n (Txt.mul (Str.ofString "m") ((n : Int).fdiv 1000)) ⟨0, ⟨#[99]⟩, ⟨#[100]⟩, ⟨#[109]⟩, ((100 : Nat) : Int)⟩) ⟨0, ⟨#[120]⟩, ⟨#[108]⟩, ⟨#[99]⟩, ((10 : Nat) : Int)⟩) ⟨0, ⟨#[105]⟩, ⟨#[118]⟩, ⟨#[120]⟩, ((1 : Nat) : Int)⟩ := rfl
  rw [e2, lstep_cl _ _ _ _ _ _ _ (by decide), lstep_cl _ _ _ _ _ _ _ (by decide), lstep_cl _ _ _ _ _ _ _ (by decide)]
  have e3 : cl (Txt.mul (Str.ofString "m") ((n : Int).fdiv 1000)) = List.replicate (n / 1000) 109 := by
    have := mul_one_list 109 ((n : Int).fdiv 1000)
    rw [show (Str.ofString "m" : Str) = ⟨#[109]⟩ from rfl]
    unfold cl
    rw [this, Int.fdiv_eq_ediv_of_nonneg _ (by decide)]
    congr 1
  rw [e3]
  have e4 : repL (n / 1000) [109] = List.replicate (n / 1000) 109 := by
    unfold repL
    generalize n / 1000 = q
    induction q with
    | zero => rfl
    | succ q ih => rw [List.replicate_succ, List.flatten_cons, ih, List.replicate_succ]; rfl
  have m1 : DL 99 100 109 100 (n % 1000) = DL 99 100 109 100 n := by unfold DL; rw [show n % 1000 / 100 % 10 = n / 100 % 10 by omega]
  have m2 : DL 120 108 99 10 (n % 1000) = DL 120 108 99 10 n := by unfold DL; rw [show n % 1000 / 10 % 10 = n / 10 % 10 by omega]
  have m3 : DL 105 118 120 1 (n % 1000) = DL 105 118 120 1 n := by unfold DL; rw [show n % 1000 / 1 % 10 = n / 1 % 10 by omega]
  rw [e4, m1, m2, m3]
  simp [List.append_assoc, show cl (Str.ofString "") = [] from rfl]
theorem roman_zero (z : Int) (h : z ≤ 0) : romanF z = Str.ofString "" := by
  have step : ∀ (rs : List (Int × Str)) (f : Str), (∀ r ∈ rs, 0 < r.1) → (rs.foldl romStep (z, f)).2 = f := by
    intro rs
    induction rs with
    | nil => intro f _; rfl
    | cons r rs ih =>
      intro f hr
      have h0 := hr r (.head _)
      have e : rq z r.1 = 0 := by unfold rq; rw [if_neg (by omega)]
      have e2 : romStep (z, f) r = (z, f) := by
        show (rNum z r.1, rFound z r.1 f r.2) = _
        unfold rNum rFound
        rw [e]
        show (z - (0 : Int) * r.1, f ++ Str.empty) = _
        rw [Str.append_empty, Int.zero_mul, Int.sub_zero]
      rw [List.foldl_cons, e2]
      exact ih f fun q hq => hr q (.tail _ hq)
  exact step _ _ (by decide)
end
-- TNumC
section
open PyProof.Rows.LCg PyProof.Rows.LCt
local macro_rules | `(tactic| walk_at "call ref") => `(tactic| (refine Hold.out ?_))
local macro_rules | `(tactic| walk_at "compareOp NotEq int int") => `(tactic| (refine Hold.out ?_))
def numDef : Stmt := nthS PySem.Challenge.pw_xm0631_01.main.body 14
def numScope : Scope := scopeOf numDef
def retOf : Stmt → Expr
  | .Return (some e) _ => e
  | _ => .Name "" ⟨0, 0, 0, 0⟩
def leftOf : Expr → Expr
  | .Compare l _ _ _ => l
  | e => e
def numComp : Expr := leftOf (retOf (nthS (bodyOf numDef) 4))
def lcElt : Expr → Expr
  | .ListComp e _ _ _ => e
  | e => e
def lcTest : Expr → Expr
  | .ListComp _ (c :: _) _ _ => c.ifs.headD (.Name "" ⟨0, 0, 0, 0⟩)
  | e => e
def lcScope : Expr → Scope
  | .ListComp _ _ s _ => s
  | _ => { kind := .function, names := [], isGenerator := false, isCoroutine := false, more := [] }
def IntV (v : Value) : Prop := ∃ z t, v = .int z t ∧ z < 2 ^ 64
theorem ne_same_int {prog : Program} {w : World} {A : Around} {E : Value → Shared → Prop} {s : Shared} {x y : Int} {t u : Tok} {Q : Value → Shared → Prop} (h : x = y) (k : Q (.bool false) s) : wpAny (model prog w) A (compareOp .NotEq (.int x t) (.int y u)) Q E s := by
  subst h
  refine ne_int ?_
  rw [show (x != x) = false by simp]
  exact k
theorem restT_none {prog : Program} {w : World} {A : Around} {h₀ : Heap} {L : Addr} {m : Str → Option Value} {env : Env} {ct elt : Expr} {x : Str} {scope : Scope} {cl : List (Str × Addr)} {s : Shared} {S : List (Addr × Obj) → Prop} {P : Nat → Value → Prop} {Fin : List Value → List (Addr × Obj) → Prop} {news : List (Addr × Obj)} (hS : S news)
    (ht : ∀ i v I oI C oC D m₂ h tk (E' : Value → Shared → Prop) (Q' : Bool → Shared → Prop), P i v → NsObj oC m₂ → m₂ x = some v → Fr h₀ L h m → News h₀ L h ((I, oI) :: (C, oC) :: (D, lst []) :: news) → Off3 I C D news → ((@Ne Nat I C) ∧ (@Ne Nat I D) ∧ (@Ne Nat C D)) →
      (∀ h' tk', Fr h₀ L h' m → News h₀ L h' ((I, oI) :: (C, oC) :: (D, lst []) :: news) → Q' false { s with heap := h', toks := tk' }) →
      wpAny (model prog w) A (isTrue ct (compEnvC scope cl C env) (eval ct (compEnvC scope cl C env))) Q' E' { s with heap := h, toks := tk })
    (hf : Fin [] news) : ∀ j i, CompRestT prog w A h₀ L m env ct elt x scope cl s S P Fin j i [] news := by
  intro j
  induction j with
  | zero => intro i; exact CompRestT.zero hf
  | succ j ih =>
    intro i
    refine CompRestT.succ fun v I oI C oC D m₂ h tk E' hP hC hx F N off ne => ?_
    refine ht i v I oI C oC D m₂ h tk E' _ hP hC hx F N off ne fun h' tk' F' N' => ?_
    rw [if_neg Bool.false_ne_true]
    exact CompEnd.intro F' N' news (fun p hp => hp) off hS (ih _)
set_option maxHeartbeats 4000000 in
theorem num_comp {w : World} {dp un : Nat} {gd : Option (List Code)} {outer : List Env} {A₀ : Around} {base g : Heap} {L ax : Addr} {m : Str → Option Value} {s : Shared} {news : List (Addr × Obj)} {n : Nat} {vs : List Value} {Q E : Value → Shared → Prop} {mg mb : Str → Option Value} {mean : ExcName → Option Value}
    (B : Below A₀ base outer g) (X : (Mine.hd.heap_39 w.params).In g) (T : Top Mine.hd.view_39 (looseW Mine.hd.view_39 []) mean mg mb g) (F : Fr g L s.heap m) (N : News g L s.heap news) (h1 : m "some" = some (.ref ax)) (hm : (ax, listOf vs.toArray n) ∈ news) (hvs : ∀ v ∈ vs, IntV v) (hlen : vs.length ≤ 100)
    (hd : dp + 20 < recursionLimit) (hu : un + 8 * 20 < cLine)
    (k : ∀ D h tk, Fr g L h m → News g L h ((D, lst []) :: news) → Q (.ref D) { s with heap := h, toks := tk }) :
    wpAny (model PySem.Challenge.rw_xm0631_01.row.prog w) ({ handled := none, depth := dp, frames := some (envOf "_law_numbers_right" numScope L 136 (.ref 135) :: outer), guards := gd, units := un } : Around) (eval numComp (envOf "_law_numbers_right" numScope L 136 (.ref 135))) Q E s := by
  revert X; k_fill; intro X
  with_unfolding_all refine ListComp_T (cl := []) F rfl (by decide) rfl (by decide) rfl (nameX_L F h1 (CompSrcT.ledger rfl F N hm (size_ok (show vs.toArray.size ≤ 1000 by simp; omega)) fun g' => restT_none (.inr ⟨_, hm, rfl, _, rfl⟩) ?_ (fun D h tk F' N' _ => k D h tk F' N') _ _))
  intro i v I oI C oC D m₂ h tk E' Q' hP hC hx F' N' off ne kk
  obtain ⟨z, t, rfl, hz⟩ : IntV v := by
    have h5 : vs.toArray[i]? = some v := hP
    rw [List.getElem?_toArray] at h5
    exact hvs v (List.mem_of_getElem? h5)
  k_steps
  refine Hold.mk ?_
  (with_unfolding_all refine' use_pure (letters_spec _ _ _ ?h1) ?B ?F ?X ?T ?N ?hf ?hke ?hdp ?hun ?_; (case N | B | F | X | T => k_asm); (case h1 => assumption); (case hf | hke => rfl); (case hdp => ktr_room); (case hun => ktr_units))
  intro g7 h7 tk7 v7 F7 N7 _ hp7
  obtain ⟨x7, t7, rfl, hlow7, hct7⟩ := hp7
  (try k_fold)
  k_steps
  refine Hold.mk ?_
  (with_unfolding_all refine' use_pure (counted_spec _ _ _ ?h1) ?B ?F ?X ?T ?N ?hf ?hke ?hdp ?hun ?_; (case N | B | F | X | T => k_asm); (case h1 => assumption); (case hf | hke => rfl); (case hdp => ktr_room); (case hun => ktr_units))
  intro g8 h8 tk8 v8 F8 N8 _ hp8
  obtain ⟨t8, rfl⟩ := hp8
  (try k_fold)
  k_steps
  refine Hold.mk ?_
  rename countF _ = _ => hc9
  refine ne_same_int (by rw [hc9]; split <;> omega) ?_
  k_steps
  (rename Fr _ _ _ _ => F9); (rename News _ _ _ _ => N9)
  first | exact kk _ _ F9 N9
end
-- TNum
section
def NumV (v : Value) : Prop := ∃ z t, v = .int z t ∧ 0 < z ∧ z < 40000
theorem num9 {t0 t1 t2 t3 t4 t5 t6 t7 t8 : Tok} : ∀ v ∈ [Value.int 26 t0, Value.int 27 t1, Value.int 702 t2, Value.int 703 t3, Value.int 18278 t4, Value.int 18279 t5, Value.int 3999 t6, Value.int 4999 t7, Value.int 1888 t8], NumV v :=
  List.forall_mem_cons.mpr ⟨⟨_, _, rfl, by decide, by decide⟩, List.forall_mem_cons.mpr ⟨⟨_, _, rfl, by decide, by decide⟩, List.forall_mem_cons.mpr ⟨⟨_, _, rfl, by decide, by decide⟩, List.forall_mem_cons.mpr ⟨⟨_, _, rfl, by decide, by decide⟩, List.forall_mem_cons.mpr ⟨⟨_, _, rfl, by decide, by decide⟩, List.forall_mem_cons.mpr ⟨⟨_, _, rfl, by decide, by decide⟩, List.forall_mem_cons.mpr ⟨⟨_, _, rfl, by decide, by decide⟩, List.forall_mem_cons.mpr ⟨⟨_, _, rfl, by decide, by decide⟩, List.forall_mem_cons.mpr ⟨⟨_, _, rfl, by decide, by decide⟩, List.forall_mem_nil _⟩⟩⟩⟩⟩⟩⟩⟩⟩
theorem ne_same {prog : Program} {w : World} {A : Around} {E : Value → Shared → Prop} {s : Shared} {x y : Str} {t u : Tok} {Q : Value → Shared → Prop} (h : x = y) (k : Q (.bool false) s) : wpAny (model prog w) A (compareOp .NotEq (.str x t) (.str y u)) Q E s := by
  subst h
  refine ne_str ?_
  rw [show (x != x) = false by simp]
  exact k
local macro_rules | `(tactic| walk_at "ItemsRest") => `(tactic| (refine Hold.out ?_))
local macro_rules | `(tactic| walk_at "eval ListComp") => `(tactic| (refine Hold.out ?_))
local macro_rules | `(tactic| walk_at "compareOp NotEq str str") => `(tactic| ((refine ne_same ?h ?_); (case h => first | exact roman_law _ (by omega) | exact roman_zero _ (by omega))))
local macro_rules | `(tactic| walk_at "call ref") => `(tactic| (refine Hold.out ?_))
local macro_rules | `(tactic| walk_at "call ref") => `(tactic| (k_here; k_dflt ((with_unfolding_all refine' use_pure (lroman_spec _ _ _ ?h0 ?h1) ?B ?F ?X ?T ?N ?hf ?hke ?hdp ?hun ?_; (case N | B | F | X | T => k_asm); (case h0 | h1 => omega); (case hf | hke => rfl); (case hdp => ktr_room); (case hun => ktr_units)); intro g' h' tk' v' F' N' _ hp'; (obtain ⟨t', ev'⟩ := hp'); subst ev'; (try k_fold))))
local macro_rules | `(tactic| walk_at "call ref") => `(tactic| (k_here; k_dflt ((with_unfolding_all refine' use_pure (roman_spec _ _ _ ?h1) ?B ?F ?X ?T ?N ?hf ?hke ?hdp ?hun ?_; (case N | B | F | X | T => k_asm); (case h1 => omega); (case hf | hke => rfl); (case hdp => ktr_room); (case hun => ktr_units)); intro g' h' tk' v' F' N' _ hp'; (obtain ⟨t', ev'⟩ := hp'); subst ev'; (try k_fold))))
local macro_rules | `(tactic| walk_at "call ref") => `(tactic| (k_here; k_dflt ((with_unfolding_all refine' one_use NumV ?hP ?hs ?h0 ?h1 ?B ?F ?X ?T ?N ?hf ?hke ?U ?hlt ?hne ?hdp ?hun ?_; (case N | B | F | X | T => k_asm); (case hlt => k_mem); (case hs => assumption); (case h0 => exact Nat.succ_pos _); (case h1 => exact Nat.le_of_ble_eq_true rfl); (case U => k_updF); (case hne => (refine neN ?_; (try dsimp only); omega)); (case hf | hke => rfl); (case hdp => ktr_room); (case hun => ktr_units); (case hP => exact num9)); intro h' tk' v' x' y' tx' ty' n' F' N' hs' hp'; (obtain ⟨z', tz', ez', hz1', hz2'⟩ := hp'); subst ez'; (try dsimp only at N'); (try k_fold))))
local macro_rules | `(tactic| walk_at "call ref") => `(tactic| (k_here; k_dflt ((with_unfolding_all refine' take_use ?hs ?h0 ?h1 ?B ?F ?X ?T ?N ?hf ?hke ?U ?hdp ?hun ?_; (case N | B | F | X | T => k_asm); (case hs => assumption); (case h0 | h1 => decide); (case U => k_updF); (case hf | hke => rfl); (case hdp => ktr_room); (case hun => ktr_units)); intro h' tk' r' t' x' y' tx' ty' n' F' N' hs' r0' r1'; (try dsimp only at N'); (try k_fold))))

theorem intV_of {z : Int} {t : Tok} (h : z < 2 ^ 64) : IntV (.int z t) := ⟨z, t, rfl, h⟩
theorem toNat6 : Int.toNat 6 = 6 := rfl
set_option maxHeartbeats 4000000 in
theorem numbers_spec (w : World) (l : Addr) (x y : Int) (tx ty n : Nat) (hs : SrcOk x y) : Spec w 136 [.ref l] (fun _ => True) [(l, src x y tx ty n)] 30 (fun _ _ v => v = .bool true) := by
  unfold Spec
  k_fill
  intro mg mb mean dp un gd base g env outer s B X T hk hz hpre ht hd hu
  k_dflt (refine' enter B X T hk hz ht ?k6 ?k7 ?k8 ?k9 ?kB ?_ ?c2 ?c3 ?c4 ?c5; (case k6 => k_is); (case k7 => k_is); (case k8 => ktr_room); (case k9 => exact BindsTo.of_eq rfl); (case c5 => decide); (case kB => exact locs rfl); (case c2 => exact rfl); (case c3 => exact rfl); (case c4 => exact rfl); k_whole; intro L' h' F' N' l1; (try k_lt l1); (try dsimp only); (try k_fold))
  clear hk hz ht
  k_steps
  · (refine Hold.mk ?_; (rename Fr _ _ _ _ => F9); (rename News _ _ _ _ => N9); (with_unfolding_all refine' num_comp ?B ?X ?T F9 N9 rfl (List.mem_cons_self) ?hvs ?hlen ?hd ?hu ?_; (case B => k_asm); (case X => k_asm); (case T => k_asm); (case hlen => exact Nat.le_of_ble_eq_true rfl); (case hd => ktr_room); (case hu => ktr_units); (case hvs => (simp only [toNat6] at *; (refine List.forall_mem_cons.mpr ⟨intV_of (by omega), List.forall_mem_cons.mpr ⟨intV_of (by omega), List.forall_mem_cons.mpr ⟨intV_of (by omega), List.forall_mem_cons.mpr ⟨intV_of (by omega), List.forall_mem_cons.mpr ⟨intV_of (by omega), List.forall_mem_cons.mpr ⟨intV_of (by omega), List.forall_mem_nil _⟩⟩⟩⟩⟩⟩)))); clear F9 N9; intro D8 h8 tk8 F8 N8; k_steps; (rename Fr _ _ _ _ => F7); exact After.intro F7 rfl)
  · (refine Hold.mk ?_; (rename Fr _ _ _ _ => F9); (rename News _ _ _ _ => N9); (with_unfolding_all refine' num_comp ?B ?X ?T F9 N9 rfl (List.mem_cons_self) ?hvs ?hlen ?hd ?hu ?_; (case B => k_asm); (case X => k_asm); (case T => k_asm); (case hlen => exact Nat.le_of_ble_eq_true rfl); (case hd => ktr_room); (case hu => ktr_units); (case hvs => (simp only [toNat6] at *; (refine List.forall_mem_cons.mpr ⟨intV_of (by omega), List.forall_mem_cons.mpr ⟨intV_of (by omega), List.forall_mem_cons.mpr ⟨intV_of (by omega), List.forall_mem_cons.mpr ⟨intV_of (by omega), List.forall_mem_cons.mpr ⟨intV_of (by omega), List.forall_mem_cons.mpr ⟨intV_of (by omega), List.forall_mem_nil _⟩⟩⟩⟩⟩⟩)))); clear F9 N9; intro D8 h8 tk8 F8 N8; k_steps; (rename Fr _ _ _ _ => F7); exact After.intro F7 rfl)
end
section
local macro_rules | `(tactic| walk_at "compareOp NotEq ref ref") => `(tactic| (refine Hold.out ?_))
local macro_rules | `(tactic| walk_at "compareOp Eq ref ref") => `(tactic| (refine Hold.out ?_))
local macro_rules | `(tactic| walk_at "eval ListComp") => `(tactic| (refine Hold.out ?_))
local macro_rules | `(tactic| walk_at "subscriptTail Name UnaryOp ref int") => `(tactic| (k_here; (with_unfolding_all refine' get_last ?hl ?_; (case hl => exact ⟨_, News.get (by k_asm) (by k_mem), rfl, _, rfl⟩))))
-- TInit
section
def clsBody : Stmt → List Stmt
  | .ClassDef _ _ _ b _ _ _ _ _ _ _ => b
  | _ => []
def initDef : Stmt := nthS (clsBody (nthS PySem.Challenge.pw_xm0631_01.main.body 5)) 0
def initScope : Scope := scopeOf initDef
def initAt (i : Nat) : Stmt := nthS (bodyOf initDef) i
def fmtLead : List (Bool × Str) → Str × List (Bool × Str)
  | (false, t) :: r => (t, r)
  | ps => (Str.ofString "", ps)
def fmtTail (ps : List (Bool × Str)) : Str × List (Bool × Str) :=
  match ps.getLast? with
  | some (false, t) => (t, ps.dropLast)
  | _ => (Str.ofString "", ps)
abbrev idict (w : World) (bf af : Str × Tok) (t1 t2 : Tok) : Obj := dictOf [⟨PyData.keyHash w.params "before", .str "before" t1, .str bf.1 bf.2⟩, ⟨PyData.keyHash w.params "after", .str "after" t2, .str af.1 af.2⟩] 2
structure ISep (lp x dx : Addr) (ps : List Pc) : Prop where
  dxd : @Ne Nat x dx
  dlx : @Ne Nat lp x
  dld : @Ne Nat lp dx
  off : OwnOff (ps.map Pc.ent) [lp, x, dx]
structure IGood (ps : List Pc) : Prop where
  fine : ∀ p ∈ ps, Fine p.t ∧ p.t.length ≤ 9
  len : ps.length ≤ 9
theorem ne_nil_pcs {prog : Program} {w : World} {A : Around} {E : Value → Shared → Prop} {s : Shared} {h₀ : Heap} {L l e : Addr} {news : List (Addr × Obj)} {n k : Nat} {ps : List Pc} {Q : Value → Shared → Prop} (N : News h₀ L s.heap news) (hl : (l, listOf (ps.map Pc.val).toArray n) ∈ news) (he : (e, listOf ([] : List Value).toArray k) ∈ news)
    (hp : ∀ p ∈ ps.map Pc.ent, p ∈ news) (G : IGood ps) (hu : A.units + 64 < cLine) (h : Q (.bool (!ps.isEmpty)) s) : wpAny (model prog w) A (compareOp .NotEq (.ref l) (.ref e)) Q E s := by
  obtain ⟨as, hR⟩ := reads_pcs (h := s.heap) (ps := ps) fun p hm => N.get (hp p.ent (List.mem_map.mpr ⟨p, hm, rfl⟩))
  refine ne_nil ⟨_, N.get hl, rfl, _, rfl⟩ hR (shaped_pcs fun p hm => (G.fine p hm).1) (N.get he) hu ?_
  rw [show (ps.map Pc.dat).isEmpty = ps.isEmpty by cases ps <;> rfl]
  exact h
set_option maxHeartbeats 4000000 in
theorem init_if1 {w : World} {dp un : Nat} {gd : Option (List Code)} {env : Env} {outer : List Env} {g : Heap} {L : Addr} {m : Str → Option Value} {s : Shared} {lp x dx : Addr} {n : Nat} {ps : List Pc} {af : Str × Tok} {tb t1 t2 : Tok} {Q : Flow → Shared → Prop}
    (X : (Mine.hd.heap_39 w.params).In g) (hu : un + 200 < cLine)
    (F : Fr g L s.heap m) (N : News g L s.heap ((lp, listOf (ps.map Pc.val).toArray n) :: (x, instObj 78 dx) :: (dx, idict w (Str.ofString "", tb) af t1 t2) :: ps.map Pc.ent)) (h1 : m "pieces" = some (.ref lp)) (h2 : m "self" = some (.ref x)) (S : ISep lp x dx ps) (G : IGood ps)
    (k : ∀ h' tk' m' lp' n' ps' bf, Fr g L h' m' → News g L h' ((lp', listOf (ps'.map Pc.val).toArray n') :: (x, instObj 78 dx) :: (dx, idict w bf af t1 t2) :: ps'.map Pc.ent) → m' "pieces" = some (.ref lp') → m' "self" = some (.ref x) → ISep lp' x dx ps' → IGood ps' → fmtLead (ps.map Pc.pr) = (bf.1, ps'.map Pc.pr) → Q .next { s with heap := h', toks := tk' }) :
    wpAny (model PySem.Challenge.rw_xm0631_01.row.prog w) ({ handled := none, depth := dp, frames := some (env :: outer), guards := gd, units := un } : Around) (exec (initAt 3) (envOf "Format.__init__" initScope L 61 (.ref 60))) Q (fun _ _ => False) s := by
  revert X; k_fill; intro X
  have KM := kstMark
  have hlen9 := G.len
  obtain ⟨dxd, dlx, dld, hOff⟩ := S
  with_unfolding_all show wpAny _ _ (exec (Stmt.If _ _ _ _) _) _ _ _
  (try k_fold)
  rcases ps with _ | ⟨p, r⟩
  · k_steps
    refine Hold.mk ?_
    (rename News _ _ _ _ => N9)
    refine ne_nil_pcs (ps := []) N9 (by k_mem) (by k_mem) (fun p hp => nomatch hp) G (by ke_room) ?_
    rw [show (!([] : List Pc).isEmpty) = false from rfl]
    k_steps
    (rename Fr _ _ _ _ => F9); (rename News _ _ _ _ => N9)
    exact k _ _ _ lp n [] (Str.ofString "", tb) F9 (news_sub N9 fun p hp => .tail _ hp) h1 h2 ⟨dxd, dlx, dld, hOff⟩ G rfl
  · rcases hpb : p.b with _ | _
    · k_steps
      refine Hold.mk ?_
      (rename News _ _ _ _ => N9)
      refine ne_nil_pcs (ps := p :: r) N9 (by k_mem) (by k_mem) (fun p hp => .tail _ (.tail _ (.tail _ (.tail _ hp)))) G (by ke_room) ?_
      rw [show (!(p :: r).isEmpty) = true from rfl]
      k_steps
      rename_i D9 h8 l9 h9 F9 N9
      obtain ⟨_, _, lx, ld, lr⟩ := l9
      refine k _ _ _ D9 0 r (p.t, p.k) F9 (news_sub N9 fun q hq => ?_) rfl h2 ⟨dxd, Ne.symm (Nat.ne_of_lt lx), Ne.symm (Nat.ne_of_lt ld), fun q hq b hb => ?_⟩ ⟨fun q hq => G.fine q (.tail _ hq), Nat.le_of_succ_le hlen9⟩ ?_
      · rcases List.mem_cons.mp hq with rfl | hq
        · k_mem
        rcases List.mem_cons.mp hq with rfl | hq
        · k_mem
        rcases List.mem_cons.mp hq with rfl | hq
        · k_mem
        · exact .tail _ (.tail _ (.tail _ (.tail _ (.tail _ (.tail _ hq)))))
      · rcases List.mem_cons.mp hb with e0 | hb
        · rw [e0]; exact Nat.ne_of_lt (kst_ltOf lr q (.tail _ hq))
        · exact hOff q (.tail _ hq) b (.tail _ hb)
      · have e : (p :: r).map Pc.pr = (false, p.t) :: r.map Pc.pr := by rw [List.map_cons]; show (p.b, p.t) :: _ = _; rw [hpb]
        rw [e]; rfl
    · k_steps
      refine Hold.mk ?_
      (rename News _ _ _ _ => N9)
      refine ne_nil_pcs (ps := p :: r) N9 (by k_mem) (by k_mem) (fun p hp => .tail _ (.tail _ (.tail _ (.tail _ hp)))) G (by ke_room) ?_
      rw [show (!(p :: r).isEmpty) = true from rfl]
      k_steps
      (rename Fr _ _ _ _ => F9); (rename News _ _ _ _ => N9)
      exact k _ _ _ lp n (p :: r) (Str.ofString "", tb) F9 (news_sub N9 fun p hp => .tail _ hp) h1 h2 ⟨dxd, dlx, dld, hOff⟩ G (by
        have e : (p :: r).map Pc.pr = (true, p.t) :: r.map Pc.pr := by rw [List.map_cons]; show (p.b, p.t) :: _ = _; rw [hpb]
        rw [e]; rfl)
set_option maxHeartbeats 4000000 in
theorem init_if2 {w : World} {dp un : Nat} {gd : Option (List Code)} {env : Env} {outer : List Env} {g : Heap} {L : Addr} {m : Str → Option Value} {s : Shared} {lp x dx : Addr} {n : Nat} {ps : List Pc} {bf : Str × Tok} {tb t1 t2 : Tok} {Q : Flow → Shared → Prop}
    (X : (Mine.hd.heap_39 w.params).In g) (hu : un + 200 < cLine)
    (F : Fr g L s.heap m) (N : News g L s.heap ((lp, listOf (ps.map Pc.val).toArray n) :: (x, instObj 78 dx) :: (dx, idict w bf (Str.ofString "", tb) t1 t2) :: ps.map Pc.ent)) (h1 : m "pieces" = some (.ref lp)) (h2 : m "self" = some (.ref x)) (S : ISep lp x dx ps) (G : IGood ps)
    (k : ∀ h' tk' m' lp' n' ps' af, Fr g L h' m' → News g L h' ((lp', listOf (ps'.map Pc.val).toArray n') :: (x, instObj 78 dx) :: (dx, idict w bf af t1 t2) :: ps'.map Pc.ent) → m' "pieces" = some (.ref lp') → m' "self" = some (.ref x) → ISep lp' x dx ps' → IGood ps' → fmtTail (ps.map Pc.pr) = (af.1, ps'.map Pc.pr) → Q .next { s with heap := h', toks := tk' }) :
    wpAny (model PySem.Challenge.rw_xm0631_01.row.prog w) ({ handled := none, depth := dp, frames := some (env :: outer), guards := gd, units := un } : Around) (exec (initAt 4) (envOf "Format.__init__" initScope L 61 (.ref 60))) Q (fun _ _ => False) s := by
  revert X; k_fill; intro X
  have KM := kstMark
  have hlen9 := G.len
  obtain ⟨dxd, dlx, dld, hOff⟩ := S
  with_unfolding_all show wpAny _ _ (exec (Stmt.If _ _ _ _) _) _ _ _
  (try k_fold)
  rcases List.eq_nil_or_concat ps with rfl | ⟨r, p, rfl⟩
  · k_steps
    refine Hold.mk ?_
    (rename News _ _ _ _ => N9)
    refine ne_nil_pcs (ps := []) N9 (by k_mem) (by k_mem) (fun p hp => nomatch hp) G (by ke_room) ?_
    rw [show (!([] : List Pc).isEmpty) = false from rfl]
    k_steps
    (rename Fr _ _ _ _ => F9); (rename News _ _ _ _ => N9)
    exact k _ _ _ lp n [] (Str.ofString "", tb) F9 (news_sub N9 fun p hp => .tail _ hp) h1 h2 ⟨dxd, dlx, dld, hOff⟩ G rfl
  · rw [List.concat_eq_append] at *
    have epr : (r ++ [p]).map Pc.pr = r.map Pc.pr ++ [(p.b, p.t)] := by rw [List.map_append]; rfl
    have N0 := news_sub (b := (lp, listOf (r.map Pc.val ++ [p.val]).toArray n) :: (x, instObj 78 dx) :: (dx, idict w bf (Str.ofString "", tb) t1 t2) :: p.ent :: r.map Pc.ent) N (fun q hq => by
      have e : (r ++ [p]).map Pc.val = r.map Pc.val ++ [p.val] := by rw [List.map_append]; rfl
      rw [e]
      rcases List.mem_cons.mp hq with rfl | hq
      · k_mem
      rcases List.mem_cons.mp hq with rfl | hq
      · k_mem
      rcases List.mem_cons.mp hq with rfl | hq
      · k_mem
      rw [List.map_append]
      rcases List.mem_cons.mp hq with rfl | hq
      · exact .tail _ (.tail _ (.tail _ (List.mem_append_right _ (.head _))))
      · exact .tail _ (.tail _ (.tail _ (List.mem_append_left _ hq))))
    have hOff' : OwnOff (r.map Pc.ent) [lp, x, dx] := fun q hq => hOff q (by rw [List.map_append]; exact List.mem_append_left _ hq)
    have hpp := hOff p.ent (by rw [List.map_append]; exact List.mem_append_right _ (.head _))
    have dpd : @Ne Nat p.a dx := hpp dx (.tail _ (.tail _ (.head _)))
    have dpx : @Ne Nat p.a x := hpp x (.tail _ (.head _))
    have hmem : ∀ q ∈ (r ++ [p]).map Pc.ent, q ∈ p.ent :: r.map Pc.ent := fun q hq => by
      rw [List.map_append] at hq
      rcases List.mem_append.mp hq with hq | hq
      · exact .tail _ hq
      · rw [List.mem_singleton.mp hq]; exact .head _
    rw [List.length_append] at hlen9
    have hl1 : [p].length = 1 := rfl
    clear N
    rcases hpb : p.b with _ | _
    · k_steps
      refine Hold.mk ?_
      (rename News _ _ _ _ => N9)
      refine ne_nil_pcs (n := n) (ps := r ++ [p]) N9 (by rw [List.map_append]; k_mem) (by k_mem) (fun q hq => .tail _ (.tail _ (.tail _ (.tail _ (hmem q hq))))) G (by ke_room) ?_
      rw [show (!(r ++ [p]).isEmpty) = true by simp]
      k_steps
      rename_i D9 h8 l9 h9 F9 N9
      obtain ⟨_, _, lx, ld, _, lr⟩ := l9
      refine k _ _ _ D9 0 r (p.t, p.k) F9 (news_sub N9 fun q hq => ?_) rfl h2 ⟨dxd, Ne.symm (Nat.ne_of_lt lx), Ne.symm (Nat.ne_of_lt ld), fun q hq b hb => ?_⟩ ⟨fun q hq => G.fine q (List.mem_append_left _ hq), by omega⟩ ?_
      · rcases List.mem_cons.mp hq with rfl | hq
        · k_mem
        rcases List.mem_cons.mp hq with rfl | hq
        · k_mem
        rcases List.mem_cons.mp hq with rfl | hq
        · k_mem
        · exact .tail _ (.tail _ (.tail _ (.tail _ (.tail _ (.tail _ hq)))))
      · rcases List.mem_cons.mp hb with e0 | hb
        · rw [e0]; exact Nat.ne_of_lt (kst_ltOf lr q hq)
        · exact hOff' q hq b (.tail _ hb)
      · rw [epr, hpb]; unfold fmtTail; rw [List.getLast?_concat]; simp
    · k_steps
      refine Hold.mk ?_
      (rename News _ _ _ _ => N9)
      refine ne_nil_pcs (n := n) (ps := r ++ [p]) N9 (by rw [List.map_append]; k_mem) (by k_mem) (fun q hq => .tail _ (.tail _ (.tail _ (.tail _ (hmem q hq))))) G (by ke_room) ?_
      rw [show (!(r ++ [p]).isEmpty) = true by simp]
      k_steps
      (rename Fr _ _ _ _ => F9); (rename News _ _ _ _ => N9)
      refine k _ _ _ lp n (r ++ [p]) (Str.ofString "", tb) F9 (news_sub N9 fun q hq => ?_) h1 h2 ⟨dxd, dlx, dld, hOff⟩ G ?_
      · rcases List.mem_cons.mp hq with rfl | hq
        · rw [List.map_append]; k_mem
        rcases List.mem_cons.mp hq with rfl | hq
        · k_mem
        rcases List.mem_cons.mp hq with rfl | hq
        · k_mem
        · exact .tail _ (.tail _ (.tail _ (.tail _ (hmem q hq))))
      · rw [epr, hpb]; unfold fmtTail; rw [List.getLast?_concat]
end
-- TInit2
section
open PyProof.Rows.LCg PySem PySem.W PyProof.Rows PySem.Calls PyProof.V PySem.Spec
local macro_rules | `(tactic| walk_at "idle") => `(tactic| skip)
theorem comp_told {prog : Program} {w : World} {A : Around} {E : Value → Shared → Prop} {s : Shared} {env : Env} {g : Heap} {L : Addr} {m : Str → Option Value} {news : List (Addr × Obj)} {c iter : PySem.Expr} {px px₂ tp pe : Pos} {kk n : Nat} {scope : Scope} {cl : List (Str × Addr)} {pos : Pos} {ax : Addr} {ps : List Pc} (sel : Pc → Bool) {Q : Value → Shared → Prop}
    (F : Fr g L s.heap m) (N : News g L s.heap news) (hm : (ax, listOf (ps.map Pc.val).toArray n) ∈ news) (hps : ∀ p ∈ ps.map Pc.ent, p ∈ news) (G : IGood ps)
    (hclos : closureFor scope env = pure cl) (hcell : ∀ y ∈ scope.names, y.2 ≠ .cell) (hkind : scope.kind = .function)
    (hnames : ∀ y ∈ scope.names, y.2 = .local → scope.names.lookup y.1 = some .local) (hx : scope.names.lookup (Str.ofString "is_token") = some .local) (hx₂ : scope.names.lookup (Str.ofString "told") = some .local) (hh : A.handled = none)
    (hs : ∀ x, foldedSetIterable iter env x = pure x)
    (hiter : ∀ Q' : Value → Shared → Prop, Q' (.ref ax) s → wpAny (model prog w) A (eval iter env) Q' E s)
    (htest : ∀ (C : Addr) (m₂ : Str → Option Value) (p : Pc) (s' : Shared) (Q' : Bool → Shared → Prop) (E' : Value → Shared → Prop), s'.heap.Ns C m₂ → m₂ "is_token" = some (.bool p.b) → (∀ tk, Q' (sel p) { s' with toks := tk }) →
      wpAny (model prog w) A (isTrue c (compEnvC scope cl C env) (eval c (compEnvC scope cl C env))) Q' E' s')
    (k : ∀ (D : Addr) h' tk' n', Fr g L h' m → News g L h' ((D, listOf (((ps.filter sel).map fun p => (p.t, p.k)).map tval).toArray n') :: news) → (∀ p ∈ news, p.1 < D) → Q (.ref D) { s with heap := h', toks := tk' }) :
    wpAny (model prog w) A (eval (.ListComp (.Name "told" pe) [⟨.Tuple [.Name "is_token" px, .Name "told" px₂] kk tp, iter, [c], 0⟩] scope pos) env) Q E s := by
  refine comp_pairs (sel := sel) hclos hcell hkind hnames hx hx₂ (by decide) hh hs ⟨_, N.get hm, rfl, _, rfl⟩ (fun p hp => N.get (hps p.ent (List.mem_map.mpr ⟨p, hp, rfl⟩))) (by have := G.len; omega) hiter (fun C m₂ p s' Q' E' h1 h2 _ h4 => htest C m₂ p s' Q' E' h1 h2 h4) (fun C m₂ p s' Q' E' h1 _ h3 h4 => ?_) fun D h' tk' hk hD hge => ?_
  · exact wpAny_Name (wpAny_loadName_local (env := compEnvC scope cl C env) hkind (lookup_relabel_local hx₂) h1 h3 (h4 _)) (by decide)
  · have hlt : ∀ p ∈ news, p.1 < D := fun p hp => Nat.lt_of_lt_of_le (Heap.lt_size (N p hp).1) hge
    have e : ((ps.filter sel).map fun p => (p.t, p.k)).map tval = (ps.filter sel).map fun p => Value.str p.t p.k := by rw [List.map_map]; rfl
    refine k D h' tk' ((ps.filter sel).map fun p => Value.str p.t p.k).length (F.keeps hk) ?_ hlt
    rw [e]
    refine news_cons (N.grown hk) hD ⟨Ne.symm (Nat.ne_of_lt (Nat.lt_of_lt_of_le F.ns.lt hge)), ?_⟩
    cases q : g.get? D with
    | none => rfl
    | some o => exact absurd (Heap.lt_size (F.keep _ _ q)) (Nat.not_lt.mpr hge)
def initTail : List Stmt := (bodyOf initDef).drop 5
set_option maxHeartbeats 4000000 in
theorem init_tail {w : World} {dp un : Nat} {gd : Option (List Code)} {env : Env} {outer : List Env} {g : Heap} {L : Addr} {m : Str → Option Value} {s : Shared} {lp x dx : Addr} {n : Nat} {ps : List Pc} {bf af : Str × Tok} {t1 t2 : Tok} {Q : Flow → Shared → Prop}
    (X : (Mine.hd.heap_39 w.params).In g) (hu : un + 200 < cLine)
    (F : Fr g L s.heap m) (N : News g L s.heap ((lp, listOf (ps.map Pc.val).toArray n) :: (x, instObj 78 dx) :: (dx, idict w bf af t1 t2) :: ps.map Pc.ent)) (h1 : m "pieces" = some (.ref lp)) (h2 : m "self" = some (.ref x)) (S : ISep lp x dx ps) (G : IGood ps)
    (k : ∀ h' tk' m' lt lb t3 t4 n1 n2 (tv tb : List (Str × Tok)), Fr g L h' m' → News g L h' [(x, instObj 78 dx), (dx, fmtDict w bf af lt lb t1 t2 t3 t4 4), (lt, listOf (tv.map tval).toArray n1), (lb, listOf (tb.map tval).toArray n2)] →
      tv.map (·.1) = (if (ps.filter (·.b)) = [] then [Str.ofString "1"] else (ps.filter (·.b)).map (·.t)) → tb.map (·.1) = (ps.filter (!·.b)).map (·.t) → Q .next { s with heap := h', toks := tk' }) :
    wpAny (model PySem.Challenge.rw_xm0631_01.row.prog w) ({ handled := none, depth := dp, frames := some (env :: outer), guards := gd, units := un } : Around) (execs initTail (envOf "Format.__init__" initScope L 61 (.ref 60))) Q (fun _ _ => False) s := by
  revert X; k_fill; intro X
  have KM := kstMark
  have hlen9 := G.len
  obtain ⟨dxd, dlx, dld, hOff⟩ := S
  with_unfolding_all show wpAny _ _ (execs (_ :: _ :: _ :: []) _) _ _ _
  (try k_fold)
  k_steps
  refine Hold.mk ?_
  with_unfolding_all refine comp_told (cl := []) (fun p => p.b) F N (by k_mem) (fun p hp => .tail _ (.tail _ (.tail _ hp))) G ?hclos ?hcell ?hkind ?hnames ?hx ?hx₂ ?hh ?hs ?hiter ?htest ?k
  case hclos => rfl
  case hcell => decide
  case hkind => rfl
  case hnames => decide
  case hx => rfl
  case hx₂ => rfl
  case hh => rfl
  case hs => intro _; rfl
  case hiter => exact fun Q' h => nameX_L F h1 h
  case htest =>
    intro C m₂ p s' Q' E' hn hb hq
    exact isTrue_plain (wpAny_Name (wpAny_loadName_local (env := compEnvC _ _ C _) rfl rfl hn hb (wpAny_truthy_bool (hq _))) (by decide))
  case k =>
    intro D1 h1' tk1 n1 F1 N1 l1
    have d1x : @LT.lt Nat _ x D1 := l1 (x, instObj 78 dx) (by k_mem)
    have d1d : @LT.lt Nat _ dx D1 := l1 (dx, idict w bf af t1 t2) (by k_mem)
    generalize htv : ((ps.filter fun p => p.b).map fun p => (p.t, p.k)) = tv at N1
    clear F N
    k_steps
    refine Hold.mk ?_
    (rename Fr _ _ _ _ => F2); (rename News _ _ _ _ => N2)
    with_unfolding_all refine comp_told (cl := []) (n := n) (fun p => !p.b) F2 N2 (by k_mem) (fun p hp => .tail _ (.tail _ (.tail _ (.tail _ hp)))) G ?hclos ?hcell ?hkind ?hnames ?hx ?hx₂ ?hh ?hs ?hiter ?htest ?k
    case hclos => rfl
    case hcell => decide
    case hkind => rfl
    case hnames => decide
    case hx => rfl
    case hx₂ => rfl
    case hh => rfl
    case hs => intro _; rfl
    case hiter => exact fun Q' h => nameX_L F2 h1 h
    case htest =>
      intro C m₂ p s' Q' E' hn hb hq
      exact isTrue_not (isTrue_plain (wpAny_Name (wpAny_loadName_local (env := compEnvC _ _ C _) rfl rfl hn hb (wpAny_truthy_bool (hq _))) (by decide)))
    case k =>
      intro D2 h2' tk2 n2 F3 N3 l2
      have d2x : @LT.lt Nat _ x D2 := l2 (x, instObj 78 dx) (by k_mem)
      have d2d : @LT.lt Nat _ dx D2 := l2 (dx, _) (by k_mem)
      have d21 : @LT.lt Nat _ D1 D2 := l2 (D1, _) (by k_mem)
      generalize htb : ((ps.filter fun p => !p.b).map fun p => (p.t, p.k)) = tb at N3
      have N4 := news_sub (b := (x, instObj 78 dx) :: (dx, _) :: (D1, listOf (tv.map tval).toArray n1) :: (D2, listOf (tb.map tval).toArray n2) :: []) N3 (fun q hq => by
        rcases List.mem_cons.mp hq with rfl | hq
        · k_mem
        rcases List.mem_cons.mp hq with rfl | hq
        · k_mem
        rcases List.mem_cons.mp hq with rfl | hq
        · k_mem
        rcases List.mem_cons.mp hq with rfl | hq
        · k_mem
        · nomatch hq)
      clear F2 N2 N3 hOff
      have htbf : tb.map (·.1) = (ps.filter (!·.b)).map (·.t) := by rw [← htb, List.map_map]; rfl
      have htvf : tv.map (·.1) = (ps.filter (·.b)).map (·.t) := by rw [← htv, List.map_map]; rfl
      have hfv : ∀ q ∈ tv, Fine q.1 := fun q hq => by
        rw [← htv] at hq
        obtain ⟨p, hp, rfl⟩ := List.mem_map.mp hq
        exact (G.fine p (List.mem_filter.mp hp).1).1
      have hne : ∀ r : List (Str × Tok), r = tv → (r = [] ↔ ps.filter (·.b) = []) := fun r hr => by
        rw [hr, ← htv, List.map_eq_nil_iff]
      k_steps
      refine Hold.mk ?_
      (rename News _ _ _ _ => N9)
      refine eq_nil ⟨_, N9.get (show (D1, _) ∈ _ by k_mem), rfl, _, rfl⟩ (reads_strs tv) (shaped_strs hfv) (N9.get (by k_mem)) (by ke_room) ?_
      cases hc : tv with
      | nil =>
        k_steps
        (rename Fr _ _ _ _ => F9); (rename News _ _ _ _ => N9)
        refine k _ _ _ _ D2 _ _ 0 n2 [(Str.ofString "1", _)] tb F9 (news_sub N9 (List.forall_mem_cons.mpr ⟨by k_mem, List.forall_mem_cons.mpr ⟨by k_mem, List.forall_mem_cons.mpr ⟨by k_mem, List.forall_mem_cons.mpr ⟨by k_mem, List.forall_mem_nil _⟩⟩⟩⟩)) ?_ htbf
        rw [if_pos ((hne tv rfl).mp hc)]
        rfl
      | cons q0 r =>
        rw [show ((q0 :: r).map fun p => PyData.str p.1).isEmpty = false from rfl]
        k_steps
        (rename Fr _ _ _ _ => F9); (rename News _ _ _ _ => N9)
        refine k _ _ _ D1 D2 _ _ n1 n2 tv tb F9 (news_sub N9 (List.forall_mem_cons.mpr ⟨by k_mem, List.forall_mem_cons.mpr ⟨by k_mem, List.forall_mem_cons.mpr ⟨by k_mem, List.forall_mem_cons.mpr ⟨by k_mem, List.forall_mem_nil _⟩⟩⟩⟩)) ?_ htbf
        rw [if_neg (fun h => by have := (hne tv rfl).mpr h; rw [hc] at this; cases this)]
        exact htvf
end
end
-- TInitS
section
local macro_rules | `(tactic| walk_at "call ref") => `(tactic| (refine Hold.out ?_))
local macro_rules | `(tactic| walk_at "exec If") => `(tactic| (refine Hold.out ?_))
/-- what Format keeps of the pieces -/
structure FmtOf (P : List (Bool × Str)) (bf af : Str) (tv tb : List Str) : Prop where
  bf : bf = (fmtLead P).1
  af : af = (fmtTail (fmtLead P).2).1
  tv : tv = if (fmtTail (fmtLead P).2).2.filter (·.1) = [] then [Str.ofString "1"] else ((fmtTail (fmtLead P).2).2.filter (·.1)).map (·.2)
  tb : tb = ((fmtTail (fmtLead P).2).2.filter (!·.1)).map (·.2)
theorem filt_t (ps : List Pc) (f : Bool → Bool) : (ps.filter (fun p => f p.b)).map (·.t) = ((ps.map Pc.pr).filter (fun q => f q.1)).map (·.2) := by
  induction ps with
  | nil => rfl
  | cons p r ih =>
    simp only [List.map_cons, List.filter_cons, show (Pc.pr p).1 = p.b from rfl]
    cases f p.b
    · simpa using ih
    · simpa [Pc.pr] using ih
theorem filt_nil (ps : List Pc) : ps.filter (·.b) = [] ↔ (ps.map Pc.pr).filter (·.1) = [] := by
  constructor
  · intro h
    have := filt_t ps (fun b => b)
    rw [h] at this
    exact List.map_eq_nil_iff.mp this.symm
  · intro h
    have := filt_t ps (fun b => b)
    rw [h] at this
    exact List.map_eq_nil_iff.mp this
abbrev fresh4 (w : World) (x dx lt lb : Addr) (bf af : Str × Tok) (t1 t2 t3 t4 n1 n2 : Nat) (tv tb : List (Str × Tok)) : List (Addr × Obj) :=
  [(x, instObj 78 dx), (dx, fmtDict w bf af lt lb t1 t2 t3 t4 4), (lt, listOf (tv.map tval).toArray n1), (lb, listOf (tb.map tval).toArray n2)]
def FineP (P : List (Bool × Str)) : Prop := (∀ q ∈ P, Fine q.2 ∧ q.2.length ≤ 9) ∧ P.length ≤ 9
set_option maxHeartbeats 4000000 in
theorem init_spec (w : World) (x dx : Addr) (k : Str) (t : Nat) (hk : k.length ≤ 9) (hf : Fine k) : Spec w 61 [.ref x, .str k t] (fun _ => True) [(x, instObj 78 dx), (dx, dictOf [] 0)] 30 (fun g h' v => v = .none ∧ ∃ (lt lb : Addr) (bf af : Str × Tok) (t1 t2 t3 t4 n1 n2 : Nat) (tv tb : List (Str × Tok)),
    (∀ p ∈ fresh4 w x dx lt lb bf af t1 t2 t3 t4 n1 n2 tv tb, h'.get? p.1 = some p.2 ∧ g.get? p.1 = none) ∧ FmtOf (cutF isTok k.cps.toList) bf.1 af.1 (tv.map (·.1)) (tb.map (·.1)) ∧ FineP (cutF isTok k.cps.toList)) := by
  unfold Spec
  k_fill
  intro mg mb mean dp un gd base g env outer s B X T hk hz hpre ht hd hu
  k_dflt (refine' enter B X T hk hz ht ?k6 ?k7 ?k8 ?k9 ?kB ?_ ?c2 ?c3 ?c4 ?c5; (case k6 => k_is); (case k7 => k_is); (case k8 => ktr_room); (case k9 => exact BindsTo.of_eq rfl); (case c5 => decide); (case kB => exact locs rfl); (case c2 => exact rfl); (case c3 => exact rfl); (case c4 => exact rfl); k_whole; intro L' h' F' N' l1; (try k_lt l1); (try dsimp only); (try k_fold))
  clear hk hz ht
  k_steps
  refine Hold.mk ?_
  (with_unfolding_all refine' use_pure (cut_spec w k _ hk hf) ?B ?F ?X ?T ?N ?hf ?hke ?hdp ?hun ?_; (case B => k_asm); (case F => k_asm); (case X => k_asm); (case T => k_asm); (case N => k_asm); (case hf => rfl); (case hke => rfl); (case hdp => ktr_room); (case hun => ktr_units))
  rintro g1 h1 tk1 v1 F1 N1 hfr ⟨lp, n, ps, rfl, hl, hgl, hps, hfine, hlen, hpr⟩
  have N2 := news_cons (news_app N1 (b := ps.map Pc.ent) fun p hp => by
    obtain ⟨q, hq, rfl⟩ := List.mem_map.mp hp
    exact ⟨(hps q hq).1, (hfr q.a (hps q hq).2).1, (hfr q.a (hps q hq).2).2.1⟩) hl ⟨(hfr lp hgl).1, (hfr lp hgl).2.1⟩
  have dxd : @Ne Nat x dx := fun e => by
    have e1 := N1.get (show (x, _) ∈ _ by k_mem)
    have e2 := N1.get (show (dx, _) ∈ _ by k_mem)
    rw [show x = dx from e, e2] at e1
    have h2 := congrArg Obj.cls (Option.some.inj e1)
    simp at h2
  have dlx : @Ne Nat lp x := (hfr lp hgl).2.2 (x, instObj 78 dx) (by k_mem)
  have dld : @Ne Nat lp dx := (hfr lp hgl).2.2 (dx, dictOf [] 0) (by k_mem)
  have hOff : OwnOff (ps.map Pc.ent) [lp, x, dx] := fun p hp b hb => by
    obtain ⟨q, hq, rfl⟩ := List.mem_map.mp hp
    rcases List.mem_cons.mp hb with e0 | hb
    · intro e
      have e1 := (hps q hq).1
      rw [show q.a = lp from (show q.a = b from e).trans e0, hl] at e1
      exact list_ne_tuple e1
    · have h2 := (hfr q.a (hps q hq).2).2.2
      rcases List.mem_cons.mp hb with e0 | hb
      · rw [e0]; exact h2 (x, instObj 78 dx) (by k_mem)
      · rw [List.mem_singleton.mp hb]; exact h2 (dx, dictOf [] 0) (by k_mem)
  have N3 := news_sub (b := (lp, listOf (ps.map Pc.val).toArray n) :: (x, instObj 78 dx) :: (dx, dictOf [] 0) :: ps.map Pc.ent) N2 fun p hp => hp
  clear N1 N2
  have KM := kstMark
  k_steps
  have Gd : IGood ps := ⟨hfine, hlen⟩
  refine Hold.mk ?_
  (rename Fr _ _ _ _ => F9); (rename News _ _ _ _ => N9)
  have hcl := cLine_is
  with_unfolding_all refine init_if1 (af := (Str.ofString "", _)) X (by show un + 3 + 200 < cLine; omega) F9 N9 rfl rfl ⟨dxd, dlx, dld, hOff⟩ Gd ?_
  intro h2 tk2 m2 lp2 n2 ps2 bf F2 N2 hp2 hs2 S2 G2 e2
  clear F9 N9
  (try dsimp only)
  k_steps
  refine Hold.mk ?_
  with_unfolding_all refine init_if2 X (by show un + 3 + 200 < cLine; omega) F2 N2 hp2 hs2 S2 G2 ?_
  intro h3 tk3 m3 lp3 n3 ps3 af F3 N3 hp3 hs3 S3 G3 e3
  clear F2 N2
  with_unfolding_all refine init_tail X (by show un + 3 + 200 < cLine; omega) F3 N3 hp3 hs3 S3 G3 ?_
  intro h4 tk4 m4 lt lb t3 t4 n4 n5 tv tb F4 N4 htv htb
  refine After.intro F4 ⟨rfl, lt, lb, bf, af, _, _, t3, t4, n4, n5, tv, tb, fun p hp => ⟨(N4 p hp).1, (N4 p hp).2.2⟩, ⟨?_, ?_, ?_, ?_⟩, ⟨fun q hq => ?_, ?_⟩⟩
  · rw [← hpr, e2]
  · rw [← hpr, e2, e3]
  · rw [htv, ← hpr, e2, e3]
    have hnil := filt_nil ps3
    have ht := filt_t ps3 (fun b => b)
    by_cases hn : ps3.filter (·.b) = []
    · rw [if_pos hn, if_pos (hnil.mp hn)]
    · rw [if_neg hn, if_neg (fun h => hn (hnil.mpr h))]; exact ht
  · rw [htb, ← hpr, e2, e3]
    exact filt_t ps3 (fun b => !b)
  · rw [← hpr] at hq
    obtain ⟨p, hp, rfl⟩ := List.mem_map.mp hq
    exact hfine p hp
  · rw [← hpr, List.length_map]; exact hlen
end
-- FComps
section
open PySem PySem.W PyProof.Rows PySem.Calls PyProof.V PySem.Spec PyProof.Rows.LCg PyProof.Rows.LCt
abbrev strOf (q : Pc) : Value := .str q.t q.k
theorem val_at {qs : List Pc} {i : Nat} {v : Value} (h : (qs.map Pc.val).toArray[i]? = some v) : ∃ q, qs[i]? = some q ∧ v = q.val := by
  rw [List.getElem?_toArray, List.getElem?_map] at h
  cases e : qs[i]? with
  | none => rw [e] at h; cases h
  | some q => rw [e] at h; exact ⟨q, rfl, (Option.some.inj h).symm⟩
theorem take_at {qs : List Pc} {i : Nat} {q : Pc} (h : qs[i]? = some q) : qs.take (i + 1) = qs.take i ++ [q] := by
  rw [List.take_add_one, h]; rfl
theorem restT_pick {prog : Program} {w : World} {A : Around} {h₀ : Heap} {L : Addr} {m : Str → Option Value} {env : Env} {ct elt : PySem.Expr} {x : Str} {scope : Scope} {cl : List (Str × Addr)} {s : Shared} {S : List (Addr × Obj) → Prop} {Fin : List Value → List (Addr × Obj) → Prop} {news : List (Addr × Obj)} {qs : List Pc} (sel : Bool → Bool) (hS : S news) (hq : ∀ q ∈ qs, q.lst ∈ news)
    (ht : ∀ q I oI C oC D ys m₂ h tk (E' : Value → Shared → Prop) (Q' : Bool → Shared → Prop), q ∈ qs → NsObj oC m₂ → m₂ x = some q.val → Fr h₀ L h m → News h₀ L h (q.lst :: (I, oI) :: (C, oC) :: (D, lst ys) :: news) →
      (∀ h' tk', Fr h₀ L h' m → News h₀ L h' (q.lst :: (I, oI) :: (C, oC) :: (D, lst ys) :: news) → Q' (sel q.b) { s with heap := h', toks := tk' }) →
      wpAny (model prog w) A (isTrue ct (compEnvC scope cl C env) (eval ct (compEnvC scope cl C env))) Q' E' { s with heap := h, toks := tk })
    (he : ∀ q I oI C oC D ys m₂ h tk (E' : Value → Shared → Prop) (Q' : Value → Shared → Prop), q ∈ qs → NsObj oC m₂ → m₂ x = some q.val → Fr h₀ L h m → News h₀ L h (q.lst :: (I, oI) :: (C, oC) :: (D, lst ys) :: news) →
      (∀ h' tk', Fr h₀ L h' m → News h₀ L h' (q.lst :: (I, oI) :: (C, oC) :: (D, lst ys) :: news) → Q' (strOf q) { s with heap := h', toks := tk' }) →
      wpAny (model prog w) A (eval elt (compEnvC scope cl C env)) Q' E' { s with heap := h, toks := tk })
    (hf : Fin ((qs.filter fun q => sel q.b).map strOf) news) : ∀ j i ys, i + j = qs.length → ys = ((qs.take i).filter fun q => sel q.b).map strOf → CompRestT prog w A h₀ L m env ct elt x scope cl s S (fun i v => (qs.map Pc.val).toArray[i]? = some v) Fin j i ys news := by
  intro j
  induction j with
  | zero =>
    intro i ys hi hy
    refine CompRestT.zero ?_
    rw [hy, show i = qs.length by omega, List.take_length]
    exact hf
  | succ j ih =>
    intro i ys hi hy
    refine CompRestT.succ fun v I oI C oC D m₂ h tk E' hP hC hx F N off ne => ?_
    obtain ⟨q, hqi, rfl⟩ := val_at hP
    have hm : q ∈ qs := List.mem_of_getElem? hqi
    refine ht q I oI C oC D ys m₂ h tk E' _ hm hC hx F (fun p hp => ?_) fun h' tk' F' N' => ?_
    · rcases List.mem_cons.mp hp with rfl | hp
      · exact N _ (.tail _ (.tail _ (.tail _ (hq q hm))))
      · exact N _ hp
    · cases hb : sel q.b with
      | true =>
        rw [if_pos rfl]
        refine he q I oI C oC D ys m₂ h' tk' E' _ hm hC hx F' N' fun h2 tk2 F2 N2 => ?_
        refine CompEnd.intro F2 N2 news (fun p hp => .tail _ hp) off hS (ih _ _ (by omega) ?_)
        rw [hy, take_at hqi, List.filter_append, List.map_append]
        simp [hb]
      | false =>
        rw [if_neg Bool.false_ne_true]
        refine CompEnd.intro F' N' news (fun p hp => .tail _ hp) off hS (ih _ _ (by omega) ?_)
        rw [hy, take_at hqi, List.filter_append, List.map_append]
        simp [hb]
theorem rest_copy {prog : Program} {w : World} {A : Around} {h₀ : Heap} {L : Addr} {m : Str → Option Value} {env : Env} {elt : PySem.Expr} {x : Str} {scope : Scope} {cl : List (Str × Addr)} {s : Shared} {S : List (Addr × Obj) → Prop} {Fin : List Value → List (Addr × Obj) → Prop} {news : List (Addr × Obj)} {qs : List Pc} (hS : ∀ cs : List Pc, S (cs.map Pc.lst ++ news)) (hq : ∀ q ∈ qs, q.ent ∈ news)
    (he : ∀ q I oI C oC D ys nw m₂ h tk (E' : Value → Shared → Prop) (Q' : Value → Shared → Prop), q ∈ qs → NsObj oC m₂ → m₂ x = some q.val → Fr h₀ L h m → News h₀ L h (q.ent :: (I, oI) :: (C, oC) :: (D, lst ys) :: nw) →
      (∀ c k' h' tk', Fr h₀ L h' m → News h₀ L h' ((c, listOf [.bool q.b, .str q.t q.k].toArray k') :: (I, oI) :: (C, oC) :: (D, lst ys) :: nw) → (@Ne Nat c I) → (@Ne Nat c C) → (@Ne Nat c D) → Q' (.ref c) { s with heap := h', toks := tk' }) →
      wpAny (model prog w) A (eval elt (compEnvC scope cl C env)) Q' E' { s with heap := h, toks := tk })
    (hf : ∀ cs : List Pc, cs.map Pc.pr = qs.map Pc.pr → Fin (cs.map Pc.val) (cs.map Pc.lst ++ news)) : ∀ j i (cs : List Pc), i + j = qs.length → cs.map Pc.pr = (qs.take i).map Pc.pr → CompRest prog w A h₀ L m env elt x scope cl s S (fun i v => (qs.map Pc.val).toArray[i]? = some v) Fin j i (cs.map Pc.val) (cs.map Pc.lst ++ news) := by
  intro j
  induction j with
  | zero =>
    intro i cs hi hy
    refine CompRest.zero (hf cs ?_)
    rw [hy, show i = qs.length by omega, List.take_length]
  | succ j ih =>
    intro i cs hi hy
    refine CompRest.succ fun v I oI C oC D m₂ h tk E' hP hC hx F N off ne => ?_
    obtain ⟨q, hqi, rfl⟩ := val_at hP
    have hm : q ∈ qs := List.mem_of_getElem? hqi
    refine he q I oI C oC D (cs.map Pc.val) (cs.map Pc.lst ++ news) m₂ h tk E' _ hm hC hx F (fun p hp => ?_) fun c k' h' tk' F' N' c1 c2 c3 => ?_
    · rcases List.mem_cons.mp hp with rfl | hp
      · exact N _ (.tail _ (.tail _ (.tail _ (List.mem_append_right _ (hq q hm)))))
      · exact N _ hp
    · have e1 : cs.map Pc.val ++ [.ref c] = (cs ++ [(⟨c, q.b, q.t, q.k, k'⟩ : Pc)]).map Pc.val := by rw [List.map_append]; rfl
      have hsub : ∀ p, p ∈ (cs ++ [(⟨c, q.b, q.t, q.k, k'⟩ : Pc)]).map Pc.lst ++ news → p = (c, listOf [.bool q.b, .str q.t q.k].toArray k') ∨ p ∈ cs.map Pc.lst ++ news := fun p hp => by
        rw [List.map_append] at hp
        rcases List.mem_append.mp hp with hp | hp
        · rcases List.mem_append.mp hp with hp | hp
          · exact .inr (List.mem_append_left _ hp)
          · exact .inl (List.mem_singleton.mp hp)
        · exact .inr (List.mem_append_right _ hp)
      refine CompEnd.intro F' N' ((cs ++ [(⟨c, q.b, q.t, q.k, k'⟩ : Pc)]).map Pc.lst ++ news) (fun p hp => ?_) (Off3.of fun p hp => ?_) (hS _) (by rw [e1]; exact ih _ _ (by omega) (by rw [take_at hqi, List.map_append, List.map_append, hy]; rfl))
      · rcases List.mem_cons.mp hp with rfl | hp
        · exact .tail _ (.head _)
        rcases List.mem_cons.mp hp with rfl | hp
        · exact .tail _ (.tail _ (.head _))
        rcases List.mem_cons.mp hp with rfl | hp
        · exact .tail _ (.tail _ (.tail _ (.head _)))
        rcases hsub p hp with rfl | hp
        · exact .head _
        · exact .tail _ (.tail _ (.tail _ (.tail _ hp)))
      · rcases hsub p hp with rfl | hp
        · exact ⟨c1, c2, c3⟩
        · exact Off3.mem off p hp
end
-- TFmtNew
section
theorem fmt_call {w : World} {k : Str} {t : Nat} (hk : k.length ≤ 9) (hfk : Fine k)
    {dp un : Nat} {gd : Option (List Code)} {env : Env} {outer : List Env} {A₀ : Around} {base h₀ : Heap} {L : Addr} {m : Str → Option Value} {s : Shared} {news : List (Addr × Obj)} {Q E : Value → Shared → Prop} {mg mb : Str → Option Value} {mean : ExcName → Option Value}
    (B : Below A₀ base outer h₀) (F : Fr h₀ L s.heap m) (X : (Mine.hd.heap_39 w.params).In h₀) (T : Top Mine.hd.view_39 (looseW Mine.hd.view_39 []) mean mg mb h₀) (N : News h₀ L s.heap news)
    (hf : env.frame = some L) (hke : env.scope.kind = .function) (hdp : dp + 40 < recursionLimit) (hun : un + 8 * 40 < cLine)
    (kk : ∀ x dx lt lb (bf af : Str × Tok) t1 t2 t3 t4 n1 n2 (tv tb : List (Str × Tok)) h' tk', Fr h₀ L h' m → News h₀ L h' (fresh4 w x dx lt lb bf af t1 t2 t3 t4 n1 n2 tv tb ++ news) → FmtOf (cutF isTok k.cps.toList) bf.1 af.1 (tv.map (·.1)) (tb.map (·.1)) → FineP (cutF isTok k.cps.toList) → Q (.ref x) { s with heap := h', toks := tk' }) :
    wpAny (model PySem.Challenge.rw_xm0631_01.row.prog w) { handled := none, depth := dp, frames := some (env :: outer), guards := gd, units := un } (call (.ref 78) [.str k t]) Q E s := by
  revert X; k_fill; intro X
  refine call_cls F X N (by k_is) (by k_is) (by k_is) fun x dx h1 F1 N1 l1 l2 => ?_
  revert X; k_fill; intro X
  refine use_code (init_spec w x dx k t hk hfk) news (env := env) (outer := outer) rfl rfl B F1 X T N1 hf hke (fun p hp => ?_) (fun p hp => .tail _ (.tail _ hp)) (fun p hp q hq => ?_) ?_ ?_ ?_
  · rcases List.mem_cons.mp hp with rfl | hp
    · exact .head _
    · rw [List.mem_singleton.mp hp]; exact .tail _ (.head _)
  · have h2 := l1 p hp
    rcases List.mem_cons.mp hq with rfl | hq
    · exact Nat.ne_of_lt (Nat.lt_trans h2 l2)
    · rw [List.mem_singleton.mp hq]; exact Nat.ne_of_lt h2
  · first | (show dp + 30 < recursionLimit; omega) | (show dp + 1 + 30 < recursionLimit; omega)
  · first | (show un + 8 * 30 < cLine; omega) | (show un + 1 + 8 * 30 < cLine; omega) | (show un + 2 + 8 * 30 < cLine; omega) | (show un + 3 + 8 * 30 < cLine; omega)
  · rintro g h2 tk2 v F2 N2 hfr ⟨rfl, lt, lb, bf, af, t1, t2, t3, t4, n1, n2, tv, tb, hall, hFmt, hFine⟩
    exact ⟨rfl, kk x dx lt lb bf af t1 t2 t3 t4 n1 n2 tv tb h2 tk2 F2 (news_app (fun p hp => ⟨(hall p hp).1, (hfr p.1 (hall p hp).2).1, (hfr p.1 (hall p hp).2).2.1⟩) N2) hFmt hFine⟩
end
-- FRest
section
open PySem PySem.W PyProof.Rows PySem.Calls PyProof.V PySem.Spec PyProof.Rows.LCg PyProof.Rows.LCt
/-- a comprehension with no test: an invariant over the items done and the ledger -/
theorem rest_inv {prog : Program} {w : World} {A : Around} {h₀ : Heap} {L : Addr} {m : Str → Option Value} {env : Env} {elt : PySem.Expr} {x : Str} {scope : Scope} {cl : List (Str × Addr)} {s : Shared} {S : List (Addr × Obj) → Prop} {P : Nat → Value → Prop} {Fin : List Value → List (Addr × Obj) → Prop} {n : Nat} (Iv : Nat → List Value → List (Addr × Obj) → Prop) (hS : ∀ i ys news, Iv i ys news → S news)
    (he : ∀ i v ys news I oI C oC D m₂ h tk (E' : Value → Shared → Prop) (Q' : Value → Shared → Prop), i < n → Iv i ys news → P i v → NsObj oC m₂ → m₂ x = some v → Fr h₀ L h m → News h₀ L h ((I, oI) :: (C, oC) :: (D, lst ys) :: news) → Off3 I C D news → ((@Ne Nat I C) ∧ (@Ne Nat I D) ∧ (@Ne Nat C D)) →
      (∀ y h' tk' news', Iv (i + 1) (ys ++ [y]) news' → (∀ p ∈ news', ∃ q ∈ news, q.1 = p.1) → Fr h₀ L h' m → News h₀ L h' ((I, oI) :: (C, oC) :: (D, lst ys) :: news') → Q' y { s with heap := h', toks := tk' }) →
      wpAny (model prog w) A (eval elt (compEnvC scope cl C env)) Q' E' { s with heap := h, toks := tk })
    (hf : ∀ ys news, Iv n ys news → Fin ys news) : ∀ j i ys news, i + j = n → Iv i ys news → CompRest prog w A h₀ L m env elt x scope cl s S P Fin j i ys news := by
  intro j
  induction j with
  | zero =>
    intro i ys news hi hI
    exact CompRest.zero (hf ys news (by rw [← show i = n by omega]; exact hI))
  | succ j ih =>
    intro i ys news hi hI
    refine CompRest.succ fun v I oI C oC D m₂ h tk E' hP hC hx F N off ne => ?_
    refine he i v ys news I oI C oC D m₂ h tk E' _ (by omega) hI hP hC hx F N off ne fun y h' tk' news' hI' hsub F' N' => ?_
    refine CompEnd.intro F' N' news' (fun p hp => hp) (Off3.of fun p hp => ?_) (hS _ _ _ hI') (ih _ _ _ (by omega) hI')
    obtain ⟨q, hq, e⟩ := hsub p hp
    rw [← e]
    exact Off3.mem off q hq
end
section
local macro_rules | `(tactic| walk_at "compareOp NotEq ref ref") => `(tactic| (refine Hold.out ?_))
local macro_rules | `(tactic| walk_at "compareOp Eq ref ref") => `(tactic| (refine Hold.out ?_))
local macro_rules | `(tactic| walk_at "eval ListComp") => `(tactic| (refine Hold.out ?_))
local macro_rules | `(tactic| walk_at "subscriptTail Name UnaryOp ref int") => `(tactic| (k_here; (with_unfolding_all refine' get_last ?hl ?_; (case hl => exact ⟨_, News.get (by k_asm) (by k_mem), rfl, _, rfl⟩))))
-- TFmtA
section
open PySem PySem.W PyProof.Rows PySem.Calls PyProof.V PySem.Spec PyProof.Rows.LCg PyProof.Rows.LCt
local macro_rules | `(tactic| walk_at "call ref") => `(tactic| (refine Hold.out ?_))
def frDef : Stmt := nthS PySem.Challenge.pw_xm0631_01.main.body 15
def frScope : Scope := scopeOf frDef
def frAt (i : Nat) : Stmt := nthS (bodyOf frDef) i
theorem ldat_of {ps cs : List Pc} (h : cs.map Pc.pr = ps.map Pc.pr) : cs.map Pc.ldat = ps.map Pc.ldat := by
  have e : ∀ l : List Pc, l.map Pc.ldat = (l.map Pc.pr).map fun q => PyData.list [.bool q.1, .str q.2] := fun l => by rw [List.map_map]; rfl
  rw [e, e, h]
theorem eqv_same : ∀ ps : List Pc, PyData.eqv (.list (ps.map Pc.ldat)) (.list (ps.map Pc.ldat)) = true := fun ps => by
  rw [show PyData.eqv (.list (ps.map Pc.ldat)) (.list (ps.map Pc.ldat)) = PyData.eqvAll (ps.map Pc.ldat) (ps.map Pc.ldat) by simp only [PyData.eqv]]
  induction ps with
  | nil => simp [PyData.eqvAll]
  | cons p r ih =>
    rw [List.map_cons]
    simp only [PyData.eqvAll, ih, Bool.and_true]
    simp [Pc.ldat, PyData.eqv, PyData.eqvAll]
set_option maxHeartbeats 4000000 in
theorem fr_if1 {w : World} {dp un : Nat} {gd : Option (List Code)} {outer : List Env} {A₀ : Around} {base g : Heap} {L lr : Addr} {m : Str → Option Value} {s : Shared} {n : Nat} {ps : List Pc} {R : List (Addr × Obj)} {k : Str} {t : Tok} {Q : Flow → Shared → Prop} {mg mb : Str → Option Value} {mean : ExcName → Option Value}
    (B : Below A₀ base outer g) (X : (Mine.hd.heap_39 w.params).In g) (T : Top Mine.hd.view_39 (looseW Mine.hd.view_39 []) mean mg mb g) (F : Fr g L s.heap m) (N : News g L s.heap ((lr, listOf (ps.map Pc.val).toArray n) :: R)) (hps : ∀ p ∈ ps, p.lst ∈ R) (h1 : m "runs" = some (.ref lr)) (h2 : m "text" = some (.str k t)) (G : IGood ps) (hk : k.length ≤ 9) (hf : Fine k) (hP : ps.map Pc.pr = cutF isTok k.cps.toList)
    (hd : dp + 20 < recursionLimit) (hu : un + 8 * 20 < cLine)
    (kk : ∀ h' tk', Fr g L h' m → News g L h' ((lr, listOf (ps.map Pc.val).toArray n) :: R) → Q .next { s with heap := h', toks := tk' }) :
    wpAny (model PySem.Challenge.rw_xm0631_01.row.prog w) ({ handled := none, depth := dp, frames := some (envOf "_law_format_right" frScope L 141 (.ref 140) :: outer), guards := gd, units := un } : Around) (exec (frAt 1) (envOf "_law_format_right" frScope L 141 (.ref 140))) Q (fun _ _ => False) s := by
  revert X; k_fill; intro X
  have KM := kstMark
  have hlen9 := G.len
  with_unfolding_all show wpAny _ _ (exec (Stmt.If _ _ _ _) _) _ _ _
  (try k_fold)
  k_steps
  refine Hold.mk ?_
  with_unfolding_all refine ListComp_U (cl := []) F rfl (by decide) rfl (by decide) rfl ?_
  k_steps
  refine Hold.mk ?_
  (with_unfolding_all refine' use_pure (cut_spec w k _ hk hf) ?B ?F ?X ?T ?N ?hf ?hke ?hdp ?hun ?_; (case B => k_asm); (case F => k_asm); (case X => k_asm); (case T => k_asm); (case N => k_asm); (case hf => rfl); (case hke => rfl); (case hdp => ktr_room); (case hun => ktr_units))
  rintro g1 hh1 tk1 v1 F1 N1 hfr ⟨lp, n1, qs, rfl, hl, hgl, hqs, hfine, hlen, hpr⟩
  have N2 := news_cons (news_app N1 (b := qs.map Pc.ent) fun p hp => by
    obtain ⟨q, hq, rfl⟩ := List.mem_map.mp hp
    exact ⟨(hqs q hq).1, (hfr q.a (hqs q hq).2).1, (hfr q.a (hqs q hq).2).2.1⟩) hl ⟨(hfr lp hgl).1, (hfr lp hgl).2.1⟩
  have hq2 : ∀ q ∈ qs, q.ent ∈ (lp, listOf (qs.map Pc.val).toArray n1) :: ((lr, listOf (ps.map Pc.val).toArray n) :: R ++ qs.map Pc.ent) := fun q hq => .tail _ (List.mem_append_right _ (List.mem_map.mpr ⟨q, hq, rfl⟩))
  with_unfolding_all refine CompSrc.ledger rfl F1 N2 (.head _) (size_ok (by rw [List.length_map]; omega)) fun g' => rest_copy (S := SrcAt g lp (qs.map Pc.val).toArray) (fun cs => Or.inr ⟨_, List.mem_append_right _ (.head _), rfl, _, rfl⟩) hq2 ?he ?hfin _ _ [] ?hj ?hi
  case hj => simp
  case hi => rfl
  case he =>
    intro q I oI C oC D ys nw m₂ h tk E' Q' hq hC hx F' N' kk'
    clear F1 N1 N2 F N
    k_steps
    rename_i D9 c9 h9 F9 N9 l9
    obtain ⟨_, lI, lC, lD, _⟩ := l9
    refine kk' D9 c9 h9 _ F9 (news_sub N9 fun p hp => ?_) (Ne.symm (Nat.ne_of_lt lI)) (Ne.symm (Nat.ne_of_lt lC)) (Ne.symm (Nat.ne_of_lt lD))
    rcases List.mem_cons.mp hp with rfl | hp
    · exact .head _
    · exact .tail _ (.tail _ hp)
  case hfin =>
    intro cs hcs D h' tk' F' N' off
    clear F1 N1 F N
    have eld : cs.map Pc.ldat = ps.map Pc.ldat := ldat_of (hcs.trans (hpr.trans hP.symm))
    have N3 := news_sub (b := (lr, listOf (ps.map Pc.val).toArray n) :: R) N' fun p hp => .tail _ (List.mem_append_right _ (.tail _ (List.mem_append_left _ hp)))
    have hD := N'.get (show (D, lst (cs.map Pc.val)) ∈ _ from .head _)
    have hC : ∀ c ∈ cs, h'.get? c.a = some c.lst.2 := fun c hc => N'.get (show c.lst ∈ _ from .tail _ (List.mem_append_left _ (List.mem_map.mpr ⟨c, hc, rfl⟩)))
    have hL : ∀ p ∈ ps, h'.get? p.a = some p.lst.2 := fun p hp => N3.get (show p.lst ∈ _ from .tail _ (hps p hp))
    clear N' N2 off
    k_steps
    refine Hold.mk ?_
    obtain ⟨as1, hR1⟩ := reads_lsts hC
    obtain ⟨as2, hR2⟩ := reads_lsts hL
    rw [eld] at hR1
    have hsh := shaped_lsts (ps := ps) fun p hp => (G.fine p hp).1
    refine ne_dataH (reads_list_at hD rfl rfl (by simpa using hR1)) (reads_list_at (N3.get (show (lr, _) ∈ _ from .head _)) rfl rfl (by simpa using hR2)) hsh hsh (by ke_room) ?_
    rw [eqv_same, show (!true) = false from rfl]
    k_steps
    (rename Fr _ _ _ _ => F9); (rename News _ _ _ _ => N9)
    first | exact kk _ _ F9 N9
end
-- TFmtB
section
open PySem PySem.W PyProof.Rows PySem.Calls PyProof.V PySem.Spec PyProof.Rows.LCg PyProof.Rows.LCt
local macro_rules | `(tactic| walk_at "idle") => `(tactic| skip)
local macro_rules | `(tactic| walk_at "call ref") => `(tactic| (refine Hold.out ?_))
set_option maxHeartbeats 4000000 in
theorem fr_two {w : World} {dp un : Nat} {gd : Option (List Code)} {outer : List Env} {A₀ : Around} {base g : Heap} {L lr : Addr} {m : Str → Option Value} {s : Shared} {n : Nat} {ps : List Pc} {R : List (Addr × Obj)} {k : Str} {t : Tok} {Q : Flow → Shared → Prop} {mg mb : Str → Option Value} {mean : ExcName → Option Value}
    (B : Below A₀ base outer g) (X : (Mine.hd.heap_39 w.params).In g) (T : Top Mine.hd.view_39 (looseW Mine.hd.view_39 []) mean mg mb g) (F : Fr g L s.heap m) (N : News g L s.heap ((lr, listOf (ps.map Pc.val).toArray n) :: R)) (hps : ∀ p ∈ ps, p.lst ∈ R) (h1 : m "runs" = some (.ref lr)) (h2 : m "text" = some (.str k t)) (G : IGood ps) (hk : k.length ≤ 9) (hf : Fine k)
    (hd : dp + 50 < recursionLimit) (hu : un + 8 * 50 < cLine)
    (kk : ∀ h' tk' m' x dx lt lb (bf af : Str × Tok) t1 t2 t3 t4 n1 n2 (tv tb : List (Str × Tok)) l2 n3 (t2v : List (Str × Tok)), Fr g L h' m' → News g L h' (fresh4 w x dx lt lb bf af t1 t2 t3 t4 n1 n2 tv tb ++ ((l2, listOf (t2v.map tval).toArray n3) :: (lr, listOf (ps.map Pc.val).toArray n) :: R)) →
      FmtOf (cutF isTok k.cps.toList) bf.1 af.1 (tv.map (·.1)) (tb.map (·.1)) → FineP (cutF isTok k.cps.toList) → t2v.map (·.1) = (ps.filter (·.b)).map (·.t) →
      m' "heard" = some (.ref x) → m' "tokens" = some (.ref l2) → (∀ y : Str, y ≠ Str.ofString "heard" → y ≠ Str.ofString "tokens" → m' y = m y) → Q .next { s with heap := h', toks := tk' }) :
    wpAny (model PySem.Challenge.rw_xm0631_01.row.prog w) ({ handled := none, depth := dp, frames := some (envOf "_law_format_right" frScope L 141 (.ref 140) :: outer), guards := gd, units := un } : Around) (exec (frAt 2) (envOf "_law_format_right" frScope L 141 (.ref 140))) Q (fun _ _ => False) s := by
  revert X; k_fill; intro X
  have KM := kstMark
  have hlen9 := G.len
  with_unfolding_all show wpAny _ _ (exec (Stmt.Assign _ _ _) _) _ _ _
  (try k_fold)
  k_steps
  refine Hold.mk ?_
  (with_unfolding_all refine' fmt_call hk hf ?B ?F ?X ?T ?N ?hf ?hke ?hdp ?hun ?_; (case B => k_asm); (case F => k_asm); (case X => k_asm); (case T => k_asm); (case N => k_asm); (case hf => rfl); (case hke => rfl); (case hdp => ktr_room); (case hun => ktr_units))
  intro x dx lt lb bf af t1 t2 t3 t4 n1 n2 tv tb hh1 tk1 F1 N1 hF hFP
  clear F N
  k_steps
  refine Hold.mk ?_
  with_unfolding_all refine ListComp_T (cl := []) F1 rfl (by decide) rfl (by decide) rfl (nameX_L F1 h1 (CompSrcT.ledger rfl F1 N1 (List.mem_append_right _ (.head _)) (size_ok (by rw [List.length_map]; omega)) fun g' => restT_pick (S := SrcAt g lr (ps.map Pc.val).toArray) (fun b => b) (Or.inr ⟨_, List.mem_append_right _ (.head _), rfl, _, rfl⟩) (fun q hq => List.mem_append_right _ (.tail _ (hps q hq))) ?ht ?he ?hfin _ _ _ ?hj ?hi))
  case hj => simp
  case hi => rfl
  case ht =>
    intro q I oI C oC D ys m₂ h tk E' Q' hq hC hx F' N' kk'
    clear F1 N1
    k_steps
    exact kk' _ _ F' N'
  case he =>
    intro q I oI C oC D ys m₂ h tk E' Q' hq hC hx F' N' kk'
    clear F1 N1
    k_steps
    exact kk' _ _ F' N'
  case hfin =>
    intro D h' tk' F' N' off
    clear F1 N1
    k_steps
    (rename Fr _ _ _ _ => F9); (rename News _ _ _ _ => N9)
    have e2 : (((ps.filter fun q => q.b).map fun p => (p.t, p.k)).map tval) = (ps.filter fun q => q.b).map strOf := by rw [List.map_map]; rfl
    refine kk _ _ _ x dx lt lb bf af t1 t2 t3 t4 n1 n2 tv tb D ((ps.filter fun q => q.b).map strOf).length ((ps.filter fun q => q.b).map fun p => (p.t, p.k)) F9 (news_sub N9 fun p hp => ?_) hF hFP (by rw [List.map_map]; rfl) rfl rfl fun y hy1 hy2 => ?_
    · rw [e2] at hp
      rcases List.mem_append.mp hp with hp | hp
      · exact .tail _ (.tail _ (List.mem_append_left _ hp))
      rcases List.mem_cons.mp hp with rfl | hp
      · exact .tail _ (.head _)
      · exact .tail _ (.tail _ (List.mem_append_right _ hp))
    · show (if _ then _ else if _ then _ else _) = _
      rw [if_neg hy1, if_neg hy2]
end
-- TFmtC
section
local macro_rules | `(tactic| walk_at "compareOp NotEq str str") => `(tactic| (refine Hold.out ?_))
theorem ne_nil_lsts {prog : Program} {w : World} {A : Around} {E : Value → Shared → Prop} {s : Shared} {h₀ : Heap} {L l e : Addr} {news : List (Addr × Obj)} {n k : Nat} {ps : List Pc} {Q : Value → Shared → Prop} (N : News h₀ L s.heap news) (hl : (l, listOf (ps.map Pc.val).toArray n) ∈ news) (he : (e, listOf ([] : List Value).toArray k) ∈ news)
    (hp : ∀ p ∈ ps, p.lst ∈ news) (G : IGood ps) (hu : A.units + 64 < cLine) (h : Q (.bool (!ps.isEmpty)) s) : wpAny (model prog w) A (compareOp .NotEq (.ref l) (.ref e)) Q E s := by
  obtain ⟨as, hR⟩ := reads_lsts (h := s.heap) (ps := ps) fun p hm => N.get (hp p hm)
  refine ne_nil ⟨_, N.get hl, rfl, _, rfl⟩ hR (shaped_lsts fun p hm => (G.fine p hm).1) (N.get he) hu ?_
  rw [show (ps.map Pc.ldat).isEmpty = ps.isEmpty by cases ps <;> rfl]
  exact h
set_option maxHeartbeats 4000000 in
theorem fr_lead {w : World} {dp un : Nat} {gd : Option (List Code)} {env : Env} {outer : List Env} {g : Heap} {L lr : Addr} {m : Str → Option Value} {s : Shared} {n : Nat} {ps : List Pc} {R : List (Addr × Obj)} {Q : Flow → Shared → Prop}
    (X : (Mine.hd.heap_39 w.params).In g) (hu : un + 200 < cLine) (F : Fr g L s.heap m) (N : News g L s.heap ((lr, listOf (ps.map Pc.val).toArray n) :: R)) (hps : ∀ p ∈ ps, p.lst ∈ R) (h1 : m "runs" = some (.ref lr)) (G : IGood ps)
    (kk : ∀ h' tk' t', Fr g L h' (fun y => if y = Str.ofString "lead" then some (.str (fmtLead (ps.map Pc.pr)).1 t') else m y) → News g L h' ((lr, listOf (ps.map Pc.val).toArray n) :: R) → Q .next { s with heap := h', toks := tk' }) :
    wpAny (model PySem.Challenge.rw_xm0631_01.row.prog w) ({ handled := none, depth := dp, frames := some (env :: outer), guards := gd, units := un } : Around) (exec (frAt 3) (envOf "_law_format_right" frScope L 141 (.ref 140))) Q (fun _ _ => False) s := by
  revert X; k_fill; intro X
  have KM := kstMark
  have hlen9 := G.len
  with_unfolding_all show wpAny _ _ (exec (Stmt.Assign _ _ _) _) _ _ _
  (try k_fold)
  rcases ps with _ | ⟨p, r⟩
  · k_steps
    refine Hold.mk ?_
    (rename News _ _ _ _ => N9)
    refine ne_nil_lsts (ps := []) N9 (by k_mem) (by k_mem) (fun p hp => nomatch hp) G (by ke_room) ?_
    rw [show (!([] : List Pc).isEmpty) = false from rfl]
    k_steps
    (rename Fr _ _ _ _ => F9); (rename News _ _ _ _ => N9)
    exact kk _ _ _ F9 (news_sub N9 fun p hp => .tail _ hp)
  · have N0 := news_sub (b := (lr, listOf ((p :: r).map Pc.val).toArray n) :: p.lst :: R) N fun q hq => by
      rcases List.mem_cons.mp hq with rfl | hq
      · exact .head _
      rcases List.mem_cons.mp hq with rfl | hq
      · exact .tail _ (hps p (.head _))
      · exact .tail _ hq
    clear N
    rcases hpb : p.b with _ | _
    · k_steps
      refine Hold.mk ?_
      (rename News _ _ _ _ => N9)
      refine ne_nil_lsts (ps := p :: r) N9 (by k_mem) (by k_mem) (fun q hq => .tail _ (.tail _ (.tail _ (hps q hq)))) G (by ke_room) ?_
      rw [show (!(p :: r).isEmpty) = true from rfl]
      k_steps
      (rename Fr _ _ _ _ => F9); (rename News _ _ _ _ => N9)
      have e : (fmtLead ((p :: r).map Pc.pr)).1 = p.t := by
        have e1 : (p :: r).map Pc.pr = (false, p.t) :: r.map Pc.pr := by rw [List.map_cons]; show (p.b, p.t) :: _ = _; rw [hpb]
        rw [e1]; rfl
      rw [e] at kk
      exact kk _ _ _ F9 (news_sub N9 fun q hq => by
        rcases List.mem_cons.mp hq with rfl | hq
        · exact .tail _ (.head _)
        · exact .tail _ (.tail _ (.tail _ hq)))
    · k_steps
      refine Hold.mk ?_
      (rename News _ _ _ _ => N9)
      refine ne_nil_lsts (ps := p :: r) N9 (by k_mem) (by k_mem) (fun q hq => .tail _ (.tail _ (.tail _ (hps q hq)))) G (by ke_room) ?_
      rw [show (!(p :: r).isEmpty) = true from rfl]
      k_steps
      (rename Fr _ _ _ _ => F9); (rename News _ _ _ _ => N9)
      have e : (fmtLead ((p :: r).map Pc.pr)).1 = Str.ofString "" := by
        have e1 : (p :: r).map Pc.pr = (true, p.t) :: r.map Pc.pr := by rw [List.map_cons]; show (p.b, p.t) :: _ = _; rw [hpb]
        rw [e1]; rfl
      rw [e] at kk
      exact kk _ _ _ F9 (news_sub N9 fun q hq => by
        rcases List.mem_cons.mp hq with rfl | hq
        · exact .tail _ (.head _)
        · exact .tail _ (.tail _ (.tail _ hq)))
set_option maxHeartbeats 4000000 in
theorem fr_rest {w : World} {dp un : Nat} {gd : Option (List Code)} {env : Env} {outer : List Env} {g : Heap} {L lr : Addr} {m : Str → Option Value} {s : Shared} {n : Nat} {ps : List Pc} {R : List (Addr × Obj)} {t : Tok} {Q : Flow → Shared → Prop}
    (X : (Mine.hd.heap_39 w.params).In g) (hu : un + 200 < cLine) (F : Fr g L s.heap m) (N : News g L s.heap ((lr, listOf (ps.map Pc.val).toArray n) :: R)) (h1 : m "runs" = some (.ref lr)) (h2 : m "lead" = some (.str (fmtLead (ps.map Pc.pr)).1 t)) (G : IGood ps) (hne : ∀ p ∈ ps, p.t ≠ Str.ofString "")
    (kk : ∀ h' tk' lr2 n2 ps2, ps2.map Pc.pr = (fmtLead (ps.map Pc.pr)).2 → (∀ p ∈ ps2, p ∈ ps) → IGood ps2 → Fr g L h' (fun y => if y = Str.ofString "rest" then some (.ref lr2) else m y) → News g L h' ((lr2, listOf (ps2.map Pc.val).toArray n2) :: R) → Q .next { s with heap := h', toks := tk' }) :
    wpAny (model PySem.Challenge.rw_xm0631_01.row.prog w) ({ handled := none, depth := dp, frames := some (env :: outer), guards := gd, units := un } : Around) (exec (frAt 4) (envOf "_law_format_right" frScope L 141 (.ref 140))) Q (fun _ _ => False) s := by
  revert X; k_fill; intro X
  have KM := kstMark
  have hlen9 := G.len
  with_unfolding_all show wpAny _ _ (exec (Stmt.Assign _ _ _) _) _ _ _
  (try k_fold)
  by_cases hc : ∃ p r, ps = p :: r ∧ p.b = false
  · obtain ⟨p, r, rfl, hpb⟩ := hc
    have e : fmtLead ((p :: r).map Pc.pr) = (p.t, r.map Pc.pr) := by
      have e1 : (p :: r).map Pc.pr = (false, p.t) :: r.map Pc.pr := by rw [List.map_cons]; show (p.b, p.t) :: _ = _; rw [hpb]
      rw [e1]; rfl
    rw [e] at h2 kk
    have hn1 : p.t ≠ Str.ofString "" := hne p (.head _)
    k_steps
    refine Hold.mk ?_
    refine ne_str ?_
    rw [show (p.t != Str.ofString "") = true from by simpa using hn1]
    k_steps
    (rename Fr _ _ _ _ => F9); (rename News _ _ _ _ => N9)
    exact kk _ _ _ 0 r rfl (fun q h => .tail _ h) ⟨fun q hq => G.fine q (.tail _ hq), Nat.le_of_succ_le hlen9⟩ F9 (news_sub N9 fun q hq => by
      rcases List.mem_cons.mp hq with rfl | hq
      · exact .head _
      · exact .tail _ (.tail _ hq))
  · have e : fmtLead (ps.map Pc.pr) = (Str.ofString "", ps.map Pc.pr) := by
      rcases ps with _ | ⟨p, r⟩
      · rfl
      · have hb : p.b = true := by
          cases hb : p.b
          · exact absurd ⟨p, r, rfl, hb⟩ hc
          · rfl
        have e1 : (p :: r).map Pc.pr = (true, p.t) :: r.map Pc.pr := by rw [List.map_cons]; show (p.b, p.t) :: _ = _; rw [hb]
        rw [e1]; rfl
    rw [e] at h2 kk
    k_steps
    refine Hold.mk ?_
    refine ne_same rfl ?_
    k_steps
    (rename Fr _ _ _ _ => F9); (rename News _ _ _ _ => N9)
    exact kk _ _ lr n ps rfl (fun _ h => h) G F9 N9
theorem tail_snoc (r : List Pc) (p : Pc) : fmtTail ((r ++ [p]).map Pc.pr) = if p.b = false then (p.t, r.map Pc.pr) else (Str.ofString "", (r ++ [p]).map Pc.pr) := by
  have e : (r ++ [p]).map Pc.pr = r.map Pc.pr ++ [(p.b, p.t)] := by rw [List.map_append]; rfl
  rw [e]
  unfold fmtTail
  rw [List.getLast?_concat]
  cases hb : p.b
  · simp
  · simp
set_option maxHeartbeats 4000000 in
theorem fr_tail {w : World} {dp un : Nat} {gd : Option (List Code)} {env : Env} {outer : List Env} {g : Heap} {L lr : Addr} {m : Str → Option Value} {s : Shared} {n : Nat} {ps : List Pc} {R : List (Addr × Obj)} {Q : Flow → Shared → Prop}
    (X : (Mine.hd.heap_39 w.params).In g) (hu : un + 200 < cLine) (F : Fr g L s.heap m) (N : News g L s.heap ((lr, listOf (ps.map Pc.val).toArray n) :: R)) (hps : ∀ p ∈ ps, p.lst ∈ R) (h1 : m "rest" = some (.ref lr)) (G : IGood ps)
    (kk : ∀ h' tk' t', Fr g L h' (fun y => if y = Str.ofString "tail" then some (.str (fmtTail (ps.map Pc.pr)).1 t') else m y) → News g L h' ((lr, listOf (ps.map Pc.val).toArray n) :: R) → Q .next { s with heap := h', toks := tk' }) :
    wpAny (model PySem.Challenge.rw_xm0631_01.row.prog w) ({ handled := none, depth := dp, frames := some (env :: outer), guards := gd, units := un } : Around) (exec (frAt 5) (envOf "_law_format_right" frScope L 141 (.ref 140))) Q (fun _ _ => False) s := by
  revert X; k_fill; intro X
  have KM := kstMark
  have hlen9 := G.len
  with_unfolding_all show wpAny _ _ (exec (Stmt.Assign _ _ _) _) _ _ _
  (try k_fold)
  rcases List.eq_nil_or_concat ps with rfl | ⟨r, p, rfl⟩
  · k_steps
    refine Hold.mk ?_
    (rename News _ _ _ _ => N9)
    refine ne_nil_lsts (ps := []) N9 (by k_mem) (by k_mem) (fun p hp => nomatch hp) G (by ke_room) ?_
    rw [show (!([] : List Pc).isEmpty) = false from rfl]
    k_steps
    (rename Fr _ _ _ _ => F9); (rename News _ _ _ _ => N9)
    exact kk _ _ _ F9 (news_sub N9 fun p hp => .tail _ hp)
  · rw [List.concat_eq_append] at *
    rw [tail_snoc] at kk
    have hpm : p ∈ r ++ [p] := List.mem_append_right _ (.head _)
    have e : (r ++ [p]).map Pc.val = r.map Pc.val ++ [p.val] := by rw [List.map_append]; rfl
    have N0 := news_sub (b := (lr, listOf (r.map Pc.val ++ [p.val]).toArray n) :: p.lst :: R) N fun q hq => by
      rw [e]
      rcases List.mem_cons.mp hq with rfl | hq
      · exact .head _
      rcases List.mem_cons.mp hq with rfl | hq
      · exact .tail _ (hps p hpm)
      · exact .tail _ hq
    clear N
    rcases hpb : p.b with _ | _
    · rw [if_pos hpb] at kk
      k_steps
      refine Hold.mk ?_
      (rename News _ _ _ _ => N9)
      refine ne_nil_lsts (ps := r ++ [p]) (n := n) N9 (by rw [e]; k_mem) (by k_mem) (fun q hq => .tail _ (.tail _ (.tail _ (hps q hq)))) G (by ke_room) ?_
      rw [show (!(r ++ [p]).isEmpty) = true by simp]
      k_steps
      (rename Fr _ _ _ _ => F9); (rename News _ _ _ _ => N9)
      rw [e] at kk
      exact kk _ _ _ F9 (news_sub N9 fun q hq => by
        rcases List.mem_cons.mp hq with rfl | hq
        · exact .tail _ (.head _)
        · exact .tail _ (.tail _ (.tail _ hq)))
    · rw [if_neg (by rw [hpb]; exact Bool.noConfusion)] at kk
      k_steps
      refine Hold.mk ?_
      (rename News _ _ _ _ => N9)
      refine ne_nil_lsts (ps := r ++ [p]) (n := n) N9 (by rw [e]; k_mem) (by k_mem) (fun q hq => .tail _ (.tail _ (.tail _ (hps q hq)))) G (by ke_room) ?_
      rw [show (!(r ++ [p]).isEmpty) = true by simp]
      k_steps
      (rename Fr _ _ _ _ => F9); (rename News _ _ _ _ => N9)
      rw [e] at kk
      exact kk _ _ _ F9 (news_sub N9 fun q hq => by
        rcases List.mem_cons.mp hq with rfl | hq
        · exact .tail _ (.head _)
        · exact .tail _ (.tail _ (.tail _ hq)))
end
-- TFmtD
section
open PySem PySem.W PyProof.Rows PySem.Calls PyProof.V PySem.Spec PyProof.Rows.LCg PyProof.Rows.LCt
local macro_rules | `(tactic| walk_at "idle") => `(tactic| skip)
local macro_rules | `(tactic| walk_at "compareOp NotEq str str") => `(tactic| (refine Hold.out ?_))
theorem filt_n (ps : List Pc) : ((ps.filter fun q => !q.b).map fun p => (p.t, p.k)).map (·.1) = ((ps.map Pc.pr).filter (!·.1)).map (·.2) := by
  rw [List.map_map]
  exact filt_t ps (fun b => !b)
set_option maxHeartbeats 4000000 in
theorem fr_betw {w : World} {dp un : Nat} {gd : Option (List Code)} {env : Env} {outer : List Env} {g : Heap} {L lr : Addr} {m : Str → Option Value} {s : Shared} {n : Nat} {ps : List Pc} {R : List (Addr × Obj)} {t : Tok} {Q : Flow → Shared → Prop}
    (X : (Mine.hd.heap_39 w.params).In g) (hu : un + 200 < cLine) (F : Fr g L s.heap m) (N : News g L s.heap ((lr, listOf (ps.map Pc.val).toArray n) :: R)) (hps : ∀ p ∈ ps, p.lst ∈ R) (h1 : m "rest" = some (.ref lr)) (h2 : m "tail" = some (.str (fmtTail (ps.map Pc.pr)).1 t)) (G : IGood ps) (hne : ∀ p ∈ ps, p.t ≠ Str.ofString "")
    (kk : ∀ h' tk' lb n3 (tb : List (Str × Tok)), tb.map (·.1) = ((fmtTail (ps.map Pc.pr)).2.filter (!·.1)).map (·.2) → Fr g L h' (fun y => if y = Str.ofString "between" then some (.ref lb) else m y) → News g L h' ((lb, listOf (tb.map tval).toArray n3) :: R) → Q .next { s with heap := h', toks := tk' }) :
    wpAny (model PySem.Challenge.rw_xm0631_01.row.prog w) ({ handled := none, depth := dp, frames := some (env :: outer), guards := gd, units := un } : Around) (exec (frAt 6) (envOf "_law_format_right" frScope L 141 (.ref 140))) Q (fun _ _ => False) s := by
  revert X; k_fill; intro X
  have KM := kstMark
  have hlen9 := G.len
  with_unfolding_all show wpAny _ _ (exec (Stmt.Assign _ _ _) _) _ _ _
  (try k_fold)
  by_cases hc : ∃ r p, ps = r ++ [p] ∧ p.b = false
  · obtain ⟨r, p, rfl, hpb⟩ := hc
    rw [tail_snoc, if_pos hpb] at h2 kk
    have hn1 : p.t ≠ Str.ofString "" := hne p (List.mem_append_right _ (.head _))
    have e : (r ++ [p]).map Pc.val = r.map Pc.val ++ [p.val] := by rw [List.map_append]; rfl
    rw [e] at N
    rw [List.length_append] at hlen9
    have hl1 : [p].length = 1 := rfl
    refine PyProof.Rows.LCt.Assign_ListComp_T (F₀ := F) (by rfl) (by with_unfolding_all rfl) (by with_unfolding_all rfl) (by decide) (by rfl) (by decide) (by rfl) (by rfl) (by rfl) ?_
    k_steps
    refine Hold.mk ?_
    refine ne_str ?_
    rw [show (p.t != Str.ofString "") = true from by simpa using hn1]
    k_steps
    (rename Fr _ _ _ _ => F9); (rename News _ _ _ _ => N9)
    with_unfolding_all refine CompSrcT.ledger rfl F9 N9 (.head _) (size_ok (by rw [List.length_map]; omega)) fun g' => restT_pick (S := SrcAt g _ (r.map Pc.val).toArray) (fun b => !b) (Or.inr ⟨_, .head _, rfl, _, rfl⟩) (fun q hq => .tail _ (.tail _ (hps q (List.mem_append_left _ hq)))) ?ht ?he ?hfin _ _ _ ?hj ?hi
    case hj => simp
    case hi => rfl
    case ht =>
      intro q I oI C oC D ys m₂ h tk E' Q' hq hC hx F' N' kk'
      clear F9 N9
      k_steps
      exact kk' _ _ F' N'
    case he =>
      intro q I oI C oC D ys m₂ h tk E' Q' hq hC hx F' N' kk'
      clear F9 N9
      k_steps
      exact kk' _ _ F' N'
    case hfin =>
      intro D h' tk' F' N' off
      clear F9 N9
      (rename Fr _ _ _ _ => F9); (rename News _ _ _ _ => N9)
      have e2 : (((r.filter fun q => !q.b).map fun p => (p.t, p.k)).map tval) = (r.filter fun q => !q.b).map strOf := by rw [List.map_map]; rfl
      refine kk _ _ D ((r.filter fun q => !q.b).map strOf).length ((r.filter fun q => !q.b).map fun p => (p.t, p.k)) (filt_n r) F9 (news_sub N9 fun q hq => ?_)
      rw [e2] at hq
      rcases List.mem_cons.mp hq with rfl | hq
      · exact .head _
      · exact .tail _ (.tail _ (.tail _ hq))
  · have e : fmtTail (ps.map Pc.pr) = (Str.ofString "", ps.map Pc.pr) := by
      rcases List.eq_nil_or_concat ps with rfl | ⟨r, p, rfl⟩
      · rfl
      · rw [List.concat_eq_append] at *
        rw [tail_snoc, if_neg]
        exact fun hb => hc ⟨r, p, rfl, hb⟩
    rw [e] at h2 kk
    refine PyProof.Rows.LCt.Assign_ListComp_T (F₀ := F) (by rfl) (by with_unfolding_all rfl) (by with_unfolding_all rfl) (by decide) (by rfl) (by decide) (by rfl) (by rfl) (by rfl) ?_
    k_steps
    refine Hold.mk ?_
    refine ne_same rfl ?_
    k_steps
    (rename Fr _ _ _ _ => F9); (rename News _ _ _ _ => N9)
    with_unfolding_all refine CompSrcT.ledger rfl F9 N9 (.head _) (size_ok (by rw [List.length_map]; omega)) fun g' => restT_pick (S := SrcAt g lr (ps.map Pc.val).toArray) (fun b => !b) (Or.inr ⟨_, .head _, rfl, _, rfl⟩) (fun q hq => .tail _ (hps q hq)) ?ht ?he ?hfin _ _ _ ?hj ?hi
    case hj => simp
    case hi => rfl
    case ht =>
      intro q I oI C oC D ys m₂ h tk E' Q' hq hC hx F' N' kk'
      clear F9 N9
      k_steps
      exact kk' _ _ F' N'
    case he =>
      intro q I oI C oC D ys m₂ h tk E' Q' hq hC hx F' N' kk'
      clear F9 N9
      k_steps
      exact kk' _ _ F' N'
    case hfin =>
      intro D h' tk' F' N' off
      clear F9 N9
      (rename Fr _ _ _ _ => F9); (rename News _ _ _ _ => N9)
      have e2 : (((ps.filter fun q => !q.b).map fun p => (p.t, p.k)).map tval) = (ps.filter fun q => !q.b).map strOf := by rw [List.map_map]; rfl
      refine kk _ _ D ((ps.filter fun q => !q.b).map strOf).length ((ps.filter fun q => !q.b).map fun p => (p.t, p.k)) (filt_n ps) F9 (news_sub N9 fun q hq => ?_)
      rw [e2] at hq
      rcases List.mem_cons.mp hq with rfl | hq
      · exact .head _
      · exact .tail _ (.tail _ hq)
end
-- TFmtE
section
def quad (a b : Str) (X Y : List Str) : PyData := .tuple [.str a, .str b, .list (X.map .str), .list (Y.map .str)]
theorem quad_eqv (a b : Str) (X Y : List Str) : PyData.eqv (quad a b X Y) (quad a b X Y) = true := by
  have h : ∀ l : List Str, PyData.eqvAll (l.map .str) (l.map .str) = true := fun l => by
    induction l with
    | nil => simp [PyData.eqvAll]
    | cons c r ih =>
      rw [List.map_cons]
      simp only [PyData.eqvAll, ih, Bool.and_true]
      simp [PyData.eqv]
  unfold quad
  simp [PyData.eqv, PyData.eqvAll, h]
theorem quad_shaped {a b : Str} {X Y : List Str} (ha : Fine a) (hb : Fine b) (hX : ∀ q ∈ X, Fine q) (hY : ∀ q ∈ Y, Fine q) : SeqAt.shaped (quad a b X Y) = true := by
  have c : ∀ l : List Str, (∀ q ∈ l, Fine q) → PyData.canLayAll0 (l.map .str) = true := fun l hl => by
    induction l with
    | nil => simp [PyData.canLayAll0]
    | cons p r ih =>
      have hp : PyData.strOk p = true := hl p (.head _)
      have := ih fun q hq => hl q (.tail _ hq)
      simp [PyData.canLayAll0, PyData.canLay0, this, hp]
  have d : ∀ l : List Str, PyData.depthAll (l.map .str) ≤ 1 := fun l => by
    induction l with
    | nil => simp [PyData.depthAll]
    | cons p r ih => simp [PyData.depthAll, PyData.depth]; omega
  have ha' : PyData.strOk a = true := ha
  have hb' : PyData.strOk b = true := hb
  have d1 := d X
  have d2 := d Y
  show (PyData.canLay0 (quad a b X Y) && decide (PyData.depth (quad a b X Y) ≤ 64)) = true
  unfold quad
  simp only [PyData.canLay0, PyData.canLayAll0, PyData.depth, PyData.depthAll, c X hX, c Y hY, ha', hb', Bool.true_and]
  exact decide_eq_true (by omega)
theorem reads_strs' {h : Heap} (tv : List (Str × Tok)) : ReadsAll h (tv.map tval) ((tv.map (·.1)).map .str) [] := by
  have := reads_strs (h := h) tv
  rw [List.map_map]
  exact this
theorem reads_quad {h : Heap} {T l1 l2 : Addr} {a b : Str} {ta tb n n1 n2 : Nat} {tv tw : List (Str × Tok)} (hT : h.get? T = some ({ cls := .type "tuple", data := .seq [.str a ta, .str b tb, .ref l1, .ref l2].toArray n } : Obj)) (h1 : h.get? l1 = some (listOf (tv.map tval).toArray n1)) (h2 : h.get? l2 = some (listOf (tw.map tval).toArray n2)) :
    ∃ as, Reads h (.ref T) (quad a b (tv.map (·.1)) (tw.map (·.1))) as := by
  have r1 := reads_list_at h1 rfl rfl (by rw [List.toList_toArray]; exact reads_strs' (h := h) tv)
  have r2 := reads_list_at h2 rfl rfl (by rw [List.toList_toArray]; exact reads_strs' (h := h) tw)
  exact ⟨_, reads_tuple_at hT rfl rfl (ReadsAll.cons (Reads.str a ta) (ReadsAll.cons (Reads.str b tb) (ReadsAll.cons r1 (ReadsAll.cons r2 ReadsAll.nil))))⟩
abbrev six (w : World) (x dx lt lb : Addr) (bf af : Str × Tok) (t1 t2 t3 t4 n1 n2 : Nat) (tv tb : List (Str × Tok)) (l2 lb2 : Addr) (n3 n4 : Nat) (t2v tb2 : List (Str × Tok)) : List (Addr × Obj) :=
  [(x, instObj 78 dx), (dx, fmtDict w bf af lt lb t1 t2 t3 t4 4), (lt, listOf (tv.map tval).toArray n1), (lb, listOf (tb.map tval).toArray n2), (l2, listOf (t2v.map tval).toArray n3), (lb2, listOf (tb2.map tval).toArray n4)]
set_option maxHeartbeats 4000000 in
theorem fr_if2 {w : World} {dp un : Nat} {gd : Option (List Code)} {env : Env} {outer : List Env} {g : Heap} {L x dx lt lb l2 lb2 : Addr} {m : Str → Option Value} {s : Shared} {bf af : Str × Tok} {t1 t2 t3 t4 n1 n2 n3 n4 u1 u2 : Nat} {tv tb t2v tb2 : List (Str × Tok)} {ld tl : Str} {R : List (Addr × Obj)} {Q : Flow → Shared → Prop}
    (X : (Mine.hd.heap_39 w.params).In g) (hu : un + 200 < cLine) (F : Fr g L s.heap m) (N : News g L s.heap (six w x dx lt lb bf af t1 t2 t3 t4 n1 n2 tv tb l2 lb2 n3 n4 t2v tb2 ++ R))
    (h1 : m "heard" = some (.ref x)) (h2 : m "lead" = some (.str ld u1)) (h3 : m "tail" = some (.str tl u2)) (h4 : m "tokens" = some (.ref l2)) (h5 : m "between" = some (.ref lb2))
    (hb : bf.1 = ld) (ha : af.1 = tl) (htv : tv.map (·.1) = if t2v = [] then [Str.ofString "1"] else t2v.map (·.1)) (htb : tb.map (·.1) = tb2.map (·.1)) (f1 : Fine ld) (f2 : Fine tl) (f3 : ∀ q ∈ tv.map (·.1), Fine q) (f4 : ∀ q ∈ tb.map (·.1), Fine q) (hl2 : t2v.length ≤ 100)
    (kk : ∀ h' tk', Fr g L h' m → News g L h' (six w x dx lt lb bf af t1 t2 t3 t4 n1 n2 tv tb l2 lb2 n3 n4 t2v tb2 ++ R) → Q .next { s with heap := h', toks := tk' }) :
    wpAny (model PySem.Challenge.rw_xm0631_01.row.prog w) ({ handled := none, depth := dp, frames := some (env :: outer), guards := gd, units := un } : Around) (exec (frAt 7) (envOf "_law_format_right" frScope L 141 (.ref 140))) Q (fun _ _ => False) s := by
  revert X; k_fill; intro X
  have KM := kstMark
  have hlen : (t2v.map tval).length = t2v.length := List.length_map ..
  with_unfolding_all show wpAny _ _ (exec (Stmt.If _ _ _ _) _) _ _ _
  (try k_fold)
  have hsh : SeqAt.shaped (quad ld tl (tv.map (·.1)) (tb.map (·.1))) = true := quad_shaped f1 f2 f3 f4
  subst hb ha
  cases hc : t2v with
  | nil =>
    rw [hc] at N kk htv
    k_steps
    (rename News _ _ _ _ => N8)
    refine wpAny_truthy_list (items := (([] : List (Str × Tok)).map tval).toArray) ⟨_, N8.get (show (l2, _) ∈ _ by k_mem), rfl, _, rfl⟩ (by decide) ?_
    rw [show (!(([] : List (Str × Tok)).map tval).toArray.isEmpty) = false from rfl]
    k_steps
    refine Hold.mk ?_
    (rename Fr _ _ _ _ => F9); (rename News _ _ _ _ => N9)
    obtain ⟨as1, r1⟩ := reads_quad (N9.get (.tail _ (.tail _ (.head _)))) (N9.get (show (lt, listOf (tv.map tval).toArray n1) ∈ _ by k_mem)) (N9.get (show (lb, listOf (tb.map tval).toArray n2) ∈ _ by k_mem))
    obtain ⟨as2, r2⟩ := reads_quad (tv := [(Str.ofString "1", _)]) (N9.get (.head _)) (N9.get (.tail _ (.head _))) (N9.get (show (lb2, listOf (tb2.map tval).toArray n4) ∈ _ by k_mem))
    rw [show ([(Str.ofString "1", _)] : List (Str × Tok)).map (·.1) = tv.map (·.1) from htv.symm, ← htb] at r2
    refine ne_dataH r1 r2 hsh hsh (by ke_room) ?_
    rw [quad_eqv, show (!true) = false from rfl]
    k_steps
    (rename Fr _ _ _ _ => F9); (rename News _ _ _ _ => N9)
    exact kk _ _ F9 (news_sub N9 fun p hp => .tail _ (.tail _ (.tail _ hp)))
  | cons q0 r =>
    rw [hc] at N kk htv hlen
    rw [if_neg (List.cons_ne_nil _ _)] at htv
    k_steps
    (rename News _ _ _ _ => N8)
    refine wpAny_truthy_list ⟨_, N8.get (show (l2, _) ∈ _ by k_mem), rfl, _, rfl⟩ ?_ ?_
    · rw [List.size_toArray, List.length_map]
      rw [hc] at hl2
      omega
    rw [show (!((q0 :: r).map tval).toArray.isEmpty) = true from rfl]
    k_steps
    refine Hold.mk ?_
    (rename Fr _ _ _ _ => F9); (rename News _ _ _ _ => N9)
    obtain ⟨as1, r1⟩ := reads_quad (N9.get (.tail _ (.head _))) (N9.get (show (lt, listOf (tv.map tval).toArray n1) ∈ _ by k_mem)) (N9.get (show (lb, listOf (tb.map tval).toArray n2) ∈ _ by k_mem))
    obtain ⟨as2, r2⟩ := reads_quad (N9.get (.head _)) (N9.get (show (l2, listOf ((q0 :: r).map tval).toArray n3) ∈ _ by k_mem)) (N9.get (show (lb2, listOf (tb2.map tval).toArray n4) ∈ _ by k_mem))
    rw [← htv, ← htb] at r2
    refine ne_dataH r1 r2 hsh hsh (by ke_room) ?_
    rw [quad_eqv, show (!true) = false from rfl]
    k_steps
    (rename Fr _ _ _ _ => F9); (rename News _ _ _ _ => N9)
    exact kk _ _ F9 (news_sub N9 fun p hp => .tail _ (.tail _ hp))
end
-- FPure
section
theorem cutF_congr {f g : Nat → Bool} {cs : List Nat} (h : ∀ c ∈ cs, f c = g c) : cutF f cs = cutF g cs := by
  unfold cutF
  generalize ([] : List (Bool × Str)) = acc
  induction cs generalizing acc with
  | nil => rfl
  | cons c r ih =>
    rw [List.foldl_cons, List.foldl_cons, show cutStep f acc c = cutStep g acc c by unfold cutStep; rw [h c (.head _)]]
    exact ih (fun c hc => h c (.tail _ hc)) _
theorem app_ne (a : Str) (c : Nat) : a ++ sg c ≠ Str.ofString "" := fun e => by
  have h := congrArg (fun x : Str => x.cps.size) e
  rw [Str.cps_append, Array.size_append] at h
  rw [show (sg c).cps.size = 1 from rfl, show (Str.ofString "").cps.size = 0 by decide] at h
  omega
theorem sg_ne (c : Nat) : sg c ≠ Str.ofString "" := fun e => by
  have h := congrArg (fun x : Str => x.cps.size) e
  rw [show (sg c).cps.size = 1 from rfl, show (Str.ofString "").cps.size = 0 by decide] at h
  omega
theorem cutF_ne (tok : Nat → Bool) (cs : List Nat) : ∀ q ∈ cutF tok cs, q.2 ≠ Str.ofString "" := by
  unfold cutF
  have h0 : ∀ q ∈ ([] : List (Bool × Str)), q.2 ≠ Str.ofString "" := fun q hq => nomatch hq
  generalize ([] : List (Bool × Str)) = acc at h0
  induction cs generalizing acc with
  | nil => exact h0
  | cons c r ih =>
    rw [List.foldl_cons]
    refine ih _ fun q hq => ?_
    unfold cutStep at hq
    split at hq
    · split at hq
      · rcases List.mem_append.mp hq with hq | hq
        · exact h0 q (List.dropLast_subset _ hq)
        · rw [List.mem_singleton.mp hq]; exact app_ne _ _
      · rcases List.mem_append.mp hq with hq | hq
        · exact h0 q hq
        · rw [List.mem_singleton.mp hq]; exact sg_ne _
    · rcases List.mem_append.mp hq with hq | hq
      · exact h0 q hq
      · rw [List.mem_singleton.mp hq]; exact sg_ne _
theorem lead_filter (P : List (Bool × Str)) : (fmtLead P).2.filter (·.1) = P.filter (·.1) := by
  rcases P with _ | ⟨⟨b, t⟩, r⟩
  · rfl
  · cases b <;> simp [fmtLead]
theorem lead_sub (P : List (Bool × Str)) : ∀ q ∈ (fmtLead P).2, q ∈ P := by
  rcases P with _ | ⟨⟨b, t⟩, r⟩
  · exact fun q h => h
  · cases b
    · exact fun q h => .tail _ h
    · exact fun q h => h
theorem lead_fst (P : List (Bool × Str)) : (fmtLead P).1 = Str.ofString "" ∨ ∃ q ∈ P, (fmtLead P).1 = q.2 := by
  rcases P with _ | ⟨⟨b, t⟩, r⟩
  · exact .inl rfl
  · cases b
    · exact .inr ⟨(false, t), .head _, rfl⟩
    · exact .inl rfl
theorem tail_cases (P : List (Bool × Str)) : (∃ r t, P = r ++ [(false, t)] ∧ fmtTail P = (t, r)) ∨ fmtTail P = (Str.ofString "", P) := by
  rcases List.eq_nil_or_concat P with rfl | ⟨r, ⟨b, t⟩, rfl⟩
  · exact .inr rfl
  · rw [List.concat_eq_append]
    cases b
    · exact .inl ⟨r, t, rfl, by simp [fmtTail]⟩
    · exact .inr (by simp [fmtTail])
theorem tail_filter (P : List (Bool × Str)) : (fmtTail P).2.filter (·.1) = P.filter (·.1) := by
  rcases tail_cases P with ⟨r, t, rfl, e⟩ | e
  · rw [e]; simp
  · rw [e]
theorem tail_sub (P : List (Bool × Str)) : ∀ q ∈ (fmtTail P).2, q ∈ P := by
  rcases tail_cases P with ⟨r, t, rfl, e⟩ | e
  · rw [e]; exact fun q h => List.mem_append_left _ h
  · rw [e]; exact fun q h => h
theorem tail_fst (P : List (Bool × Str)) : (fmtTail P).1 = Str.ofString "" ∨ ∃ q ∈ P, (fmtTail P).1 = q.2 := by
  rcases tail_cases P with ⟨r, t, rfl, e⟩ | e
  · rw [e]; exact .inr ⟨(false, t), List.mem_append_right _ (.head _), rfl⟩
  · rw [e]; exact .inl rfl
/-- what the checks of Format need, from what it keeps -/
structure Kept (P : List (Bool × Str)) (bf af : Str) (tv tb : List Str) (t2v : List (Str × Tok)) : Prop where
  f1 : Fine (fmtLead P).1
  f2 : Fine (fmtTail (fmtLead P).2).1
  htv : tv = if t2v = [] then [Str.ofString "1"] else t2v.map (·.1)
  f3 : ∀ q ∈ tv, Fine q
  f4 : ∀ q ∈ tb, Fine q
  l1 : tv.length ≤ 100
  l2 : t2v.length ≤ 100
  l3 : tb.length ≤ 100
theorem kept_of {P : List (Bool × Str)} {bf af : Str} {tv tb : List Str} {t2v : List (Str × Tok)} (h : FmtOf P bf af tv tb) (hP : FineP P) (ht : t2v.map (·.1) = (P.filter (·.1)).map (·.2)) : Kept P bf af tv tb t2v := by
  have e : (fmtTail (fmtLead P).2).2.filter (·.1) = P.filter (·.1) := (tail_filter _).trans (lead_filter _)
  have hsub : ∀ q ∈ (fmtTail (fmtLead P).2).2, q ∈ P := fun q hq => lead_sub _ _ (tail_sub _ _ hq)
  have fe : Fine (Str.ofString "") := by show PyData.strOk _ = true; decide +kernel
  have f1s : Fine (Str.ofString "1") := by show PyData.strOk _ = true; decide +kernel
  have hnil : (t2v = []) ↔ P.filter (·.1) = [] := by
    rw [← List.map_eq_nil_iff (f := fun q : Str × Tok => q.1), ht, List.map_eq_nil_iff]
  have htv : tv = if t2v = [] then [Str.ofString "1"] else t2v.map (·.1) := by
    rw [h.tv, e]
    by_cases hn : t2v = []
    · rw [if_pos hn, if_pos (hnil.mp hn)]
    · rw [if_neg hn, if_neg (fun x => hn (hnil.mpr x)), ht]
  have l2 : t2v.length ≤ 9 := by
    rw [← List.length_map (f := fun q : Str × Tok => q.1), ht, List.length_map]
    exact Nat.le_trans (List.length_filter_le _ _) hP.2
  refine ⟨?_, ?_, htv, ?_, ?_, ?_, by omega, ?_⟩
  · rcases lead_fst P with e | ⟨q, hq, e⟩
    · rw [e]; exact fe
    · rw [e]; exact (hP.1 q hq).1
  · rcases tail_fst (fmtLead P).2 with e | ⟨q, hq, e⟩
    · rw [e]; exact fe
    · rw [e]; exact (hP.1 q (lead_sub _ _ hq)).1
  · intro q hq
    rw [htv] at hq
    split at hq
    · rw [List.mem_singleton.mp hq]; exact f1s
    · rw [ht] at hq
      obtain ⟨z, hz, rfl⟩ := List.mem_map.mp hq
      exact (hP.1 z (List.mem_filter.mp hz).1).1
  · intro q hq
    rw [h.tb] at hq
    obtain ⟨z, hz, rfl⟩ := List.mem_map.mp hq
    exact (hP.1 z (hsub z (List.mem_filter.mp hz).1)).1
  · rw [htv]
    split
    · decide
    · rw [List.length_map]; omega
  · rw [h.tb, List.length_map]
    refine Nat.le_trans (List.length_filter_le _ _) ?_
    have h1 : (fmtTail (fmtLead P).2).2.length ≤ (fmtLead P).2.length := by
      rcases tail_cases (fmtLead P).2 with ⟨r, t, e1, e2⟩ | e2
      · rw [e2, e1]; simp
      · rw [e2]; exact Nat.le_refl _
    have h2 : (fmtLead P).2.length ≤ P.length := by
      rcases P with _ | ⟨⟨b, t⟩, r⟩
      · exact Nat.le_refl _
      · cases b <;> simp [fmtLead]
    have := hP.2
    omega
end
-- TFmtF
section
local macro_rules | `(tactic| walk_at "call ref") => `(tactic| (refine Hold.out ?_))
local macro_rules | `(tactic| walk_at "compareOp NotEq str str") => `(tactic| (refine Hold.out ?_))
theorem cat_last (v : Value) (r : List (Str × Tok)) (q : Str × Tok) : [v].toArray.toList ++ ((r ++ [q]).map tval).toArray.toList = (v :: r.map tval) ++ [tval q] := by simp
def frBody (i : Nat) : Stmt := nthS (bodyOf (frAt 8)) i
set_option maxHeartbeats 4000000 in
theorem fr_b1 {w : World} {dp un : Nat} {gd : Option (List Code)} {outer : List Env} {A₀ : Around} {base g : Heap} {L x dx lt lb l2 lb2 : Addr} {m : Str → Option Value} {s : Shared} {bf af : Str × Tok} {t1 t2 t3 t4 n1 n2 n3 n4 : Nat} {tv tb t2v tb2 : List (Str × Tok)} {R : List (Addr × Obj)} {p : Int} {tp : Tok} {Q : Flow → Shared → Prop} {mg mb : Str → Option Value} {mean : ExcName → Option Value}
    (B : Below A₀ base outer g) (X : (Mine.hd.heap_39 w.params).In g) (T : Top Mine.hd.view_39 (looseW Mine.hd.view_39 []) mean mg mb g) (hd : dp + 50 < recursionLimit) (hu : un + 8 * 50 < cLine) (F : Fr g L s.heap m) (N : News g L s.heap (six w x dx lt lb bf af t1 t2 t3 t4 n1 n2 tv tb l2 lb2 n3 n4 t2v tb2 ++ R))
    (h1 : m "heard" = some (.ref x)) (h4 : m "tokens" = some (.ref l2)) (h6 : m "place" = some (.int p tp)) (hp0 : 0 ≤ p) (hp1 : p ≤ 100)
    (htv : tv.map (·.1) = if t2v = [] then [Str.ofString "1"] else t2v.map (·.1)) (hl1 : tv.length ≤ 100) (hl2 : t2v.length ≤ 100)
    (kk : ∀ h' tk', Fr g L h' m → News g L h' (six w x dx lt lb bf af t1 t2 t3 t4 n1 n2 tv tb l2 lb2 n3 n4 t2v tb2 ++ R) → Q .next { s with heap := h', toks := tk' }) :
    wpAny (model PySem.Challenge.rw_xm0631_01.row.prog w) ({ handled := none, depth := dp, frames := some (envOf "_law_format_right" frScope L 141 (.ref 140) :: outer), guards := gd, units := un } : Around) (exec (frBody 0) (envOf "_law_format_right" frScope L 141 (.ref 140))) Q (fun _ _ => False) s := by
  revert X; k_fill; intro X
  have KM := kstMark
  have hlen : (t2v.map tval).length = t2v.length := List.length_map ..
  have htl : 0 < tv.length := by
    have e := congrArg List.length htv
    rw [List.length_map] at e
    rw [e]
    split
    · decide
    · rename_i hn
      rw [List.length_map]
      exact List.length_pos_iff.mpr hn
  with_unfolding_all show wpAny _ _ (exec (Stmt.If _ _ _ _) _) _ _ _
  (try k_fold)
  k_steps
  refine Hold.mk ?_
  (with_unfolding_all refine' use_ro (token_spec w x dx lt lb t1 t2 t3 t4 4 n1 bf af tv p tp hp0 hp1 htl hl1) ?B ?F ?X ?T ?N ?hf ?hke ?hin ?hdp ?hun ?_; (case B => k_asm); (case F => k_asm); (case X => k_asm); (case T => k_asm); (case N => k_asm); (case hf => rfl); (case hke => rfl); (case hdp => ktr_room); (case hun => ktr_units); (case hin => exact List.forall_mem_cons.mpr ⟨by k_mem, List.forall_mem_cons.mpr ⟨by k_mem, List.forall_mem_cons.mpr ⟨by k_mem, List.forall_mem_nil _⟩⟩⟩))
  rintro g1 hh1 tk1 v1 F1 N1 ⟨tt, rfl⟩
  clear F N
  rcases List.eq_nil_or_concat t2v with rfl | ⟨r, q, rfl⟩
  · rw [if_pos rfl] at htv
    k_steps
    · rename _ < _ => hlt
      simp only [List.map_nil, List.length_nil] at hlt
      omega
    · refine Hold.mk ?_
      refine ne_same ?_ ?_
      · rw [htv]
        unfold lastAt
        rw [show (min p ((([Str.ofString "1"] : List Str).length : Int) - 1)).toNat = 0 by simp only [List.length_cons, List.length_nil]; omega]
        rfl
      k_steps
      (rename Fr _ _ _ _ => F9); (rename News _ _ _ _ => N9)
      exact kk _ _ F9 (news_sub N9 fun p hp => .tail _ (.tail _ hp))
  · rw [List.concat_eq_append] at *
    rw [if_neg (by simp)] at htv
    rw [htv]
    k_steps
    · rename _ < _ => hlt
      rw [hlen] at hlt
      obtain ⟨t9, hx9, h09, h19⟩ := lastAt_val (tv := r ++ [q]) (p := p) (i := p) hp0 (by simp) (by omega)
      refine item_at ⟨_, N1.get (show (l2, _) ∈ _ by k_mem), rfl, _, rfl⟩ h09 (by omega) hx9 ?_
      k_steps
      refine Hold.mk ?_
      refine ne_same rfl ?_
      k_steps
      (rename Fr _ _ _ _ => F9); (rename News _ _ _ _ => N9)
      exact kk _ _ F9 N9
    · rename ¬ _ < _ => hlt
      rw [hlen] at hlt
      (rename Fr _ _ _ _ => F9); (rename News _ _ _ _ => N9)
      refine kmk_add_lit F9 N9 ⟨_, N9.get (.head _), rfl, _, rfl⟩ ⟨_, N9.get (show (l2, listOf ((r ++ [q]).map tval).toArray n3) ∈ _ by k_mem), rfl, _, rfl⟩ (cat_last _ r q) ?_ ?_
      · clear F9 N9
        intro D9 h9 F9 N9 l9
        k_steps
        refine Hold.mk ?_
        refine ne_same ?_ ?_
        · unfold lastAt
          rw [List.length_map, show (min p (((r ++ [q]).length : Int) - 1)).toNat = r.length by rw [List.length_append] at *; simp only [List.length_cons, List.length_nil] at *; omega]
          simp
        k_steps
        (rename Fr _ _ _ _ => F8); (rename News _ _ _ _ => N8)
        exact kk _ _ F8 (news_sub N8 fun p hp => .tail _ (.tail _ hp))
      · rw [sizeLine_eq]
        simp only [List.length_map, List.length_cons, List.length_nil] at *
        omega
end
-- TFmtG
section
local macro_rules | `(tactic| walk_at "idle") => `(tactic| skip)
local macro_rules | `(tactic| walk_at "call ref") => `(tactic| (refine Hold.out ?_))
local macro_rules | `(tactic| walk_at "compareOp NotEq str str") => `(tactic| (refine Hold.out ?_))
def dueF (tb2 : List (Str × Tok)) (p : Int) : Str := if tb2 = [] then Str.ofString "." else lastAt (tb2.map (·.1)) (p - 1)
set_option maxHeartbeats 4000000 in
theorem fr_b2 {w : World} {dp un : Nat} {gd : Option (List Code)} {outer : List Env} {g : Heap} {L x dx lt lb l2 lb2 : Addr} {m : Str → Option Value} {s : Shared} {bf af : Str × Tok} {t1 t2 t3 t4 n1 n2 n3 n4 : Nat} {tv tb t2v tb2 : List (Str × Tok)} {R : List (Addr × Obj)} {p : Int} {tp : Tok} {Q : Flow → Shared → Prop} {mg mb : Str → Option Value} {mean : ExcName → Option Value}
    (T : Top Mine.hd.view_39 (looseW Mine.hd.view_39 []) mean mg mb g) (X : (Mine.hd.heap_39 w.params).In g) (hu : un + 8 * 50 < cLine) (F : Fr g L s.heap m) (N : News g L s.heap (six w x dx lt lb bf af t1 t2 t3 t4 n1 n2 tv tb l2 lb2 n3 n4 t2v tb2 ++ R))
    (h5 : m "between" = some (.ref lb2)) (h6 : m "place" = some (.int p tp)) (hp0 : 0 ≤ p) (hp1 : p ≤ 100) (hfine : ∀ q ∈ tb2, Fine q.1) (hl2 : tb2.length ≤ 100)
    (kk : ∀ h' tk' d td, (1 ≤ p → d = dueF tb2 p) → Fr g L h' (fun y => if y = Str.ofString "due" then some (.str d td) else m y) → News g L h' (six w x dx lt lb bf af t1 t2 t3 t4 n1 n2 tv tb l2 lb2 n3 n4 t2v tb2 ++ R) → Q .next { s with heap := h', toks := tk' }) :
    wpAny (model PySem.Challenge.rw_xm0631_01.row.prog w) ({ handled := none, depth := dp, frames := some (envOf "_law_format_right" frScope L 141 (.ref 140) :: outer), guards := gd, units := un } : Around) (exec (frBody 1) (envOf "_law_format_right" frScope L 141 (.ref 140))) Q (fun _ _ => False) s := by
  revert X; k_fill; intro X
  have KM := kstMark
  have hlen : (tb2.map tval).length = tb2.length := List.length_map ..
  with_unfolding_all show wpAny _ _ (exec (Stmt.Assign _ _ _) _) _ _ _
  (try k_fold)
  rcases List.eq_nil_or_concat tb2 with rfl | ⟨r, q, rfl⟩
  · k_steps
    refine Hold.mk ?_
    (rename News _ _ _ _ => N9)
    refine eq_nil (vs := ([] : List (Str × Tok)).map tval) ⟨_, N9.get (show (lb2, _) ∈ _ by k_mem), rfl, _, rfl⟩ (reads_strs []) (shaped_strs hfine) (N9.get (.head _)) (by ke_room) ?_
    rw [show (([] : List (Str × Tok)).map fun p => PyData.str p.1).isEmpty = true from rfl]
    k_steps
    (rename Fr _ _ _ _ => F9); (rename News _ _ _ _ => N9)
    exact kk _ _ _ _ (fun _ => rfl) F9 (news_sub N9 fun p hp => .tail _ hp)
  · rw [List.concat_eq_append] at *
    have hne : r ++ [q] ≠ [] := by simp
    have e : (r ++ [q]).map tval = r.map tval ++ [tval q] := by rw [List.map_append]; rfl
    k_steps
    refine Hold.mk ?_
    (rename News _ _ _ _ => N9)
    refine eq_nil ⟨_, N9.get (show (lb2, _) ∈ _ by k_mem), rfl, _, rfl⟩ (reads_strs (r ++ [q])) (shaped_strs hfine) (N9.get (.head _)) (by ke_room) ?_
    rw [show ((r ++ [q]).map fun p => PyData.str p.1).isEmpty = false by simp]
    k_steps
    · rename _ ≤ ((List.length _ : Nat) : Int) => hle
      rw [hlen] at hle
      have hL := N9.get (show (lb2, listOf ((r ++ [q]).map tval).toArray n4) ∈ _ by k_mem)
      rcases (show p = 0 ∨ 1 ≤ p by omega) with rfl | hp
      · rw [e] at hL
        with_unfolding_all refine' get_last (vs := r.map tval) (v := tval q) ⟨_, hL, rfl, _, rfl⟩ ?_
        k_steps
        (rename Fr _ _ _ _ => F9); (rename News _ _ _ _ => N9)
        exact kk _ _ q.1 q.2 (fun h => by omega) F9 (news_sub N9 fun q' h => .tail _ h)
      · obtain ⟨t9, hx9, h09, h19⟩ := lastAt_val (tv := r ++ [q]) (p := p - 1) (i := p - 1) (by omega) (by simp) (by omega)
        refine item_at ⟨_, hL, rfl, _, rfl⟩ h09 (by omega) hx9 ?_
        k_steps
        (rename Fr _ _ _ _ => F9); (rename News _ _ _ _ => N9)
        exact kk _ _ _ t9 (fun _ => by unfold dueF; rw [if_neg hne]) F9 (news_sub N9 fun q' h => .tail _ h)
    · rename ¬ _ ≤ ((List.length _ : Nat) : Int) => hle
      rw [hlen] at hle
      have hL := N9.get (show (lb2, listOf ((r ++ [q]).map tval).toArray n4) ∈ _ by k_mem)
      rw [e] at hL
      with_unfolding_all refine' get_last (vs := r.map tval) (v := tval q) ⟨_, hL, rfl, _, rfl⟩ ?_
      k_steps
      (rename Fr _ _ _ _ => F9); (rename News _ _ _ _ => N9)
      refine kk _ _ q.1 q.2 (fun _ => ?_) F9 (news_sub N9 fun q' h => .tail _ h)
      unfold dueF
      rw [if_neg hne]
      unfold lastAt
      rw [List.length_map, show (min (p - 1) (((r ++ [q]).length : Int) - 1)).toNat = r.length by rw [List.length_append] at *; simp only [List.length_cons, List.length_nil] at *; omega]
      simp
set_option maxHeartbeats 4000000 in
theorem fr_b3 {w : World} {dp un : Nat} {gd : Option (List Code)} {outer : List Env} {A₀ : Around} {base g : Heap} {L x dx lt lb l2 lb2 : Addr} {m : Str → Option Value} {s : Shared} {bf af : Str × Tok} {t1 t2 t3 t4 n1 n2 n3 n4 : Nat} {tv tb t2v tb2 : List (Str × Tok)} {R : List (Addr × Obj)} {p : Int} {tp td : Tok} {d : Str} {Q : Flow → Shared → Prop} {mg mb : Str → Option Value} {mean : ExcName → Option Value}
    (B : Below A₀ base outer g) (X : (Mine.hd.heap_39 w.params).In g) (T : Top Mine.hd.view_39 (looseW Mine.hd.view_39 []) mean mg mb g) (hd : dp + 50 < recursionLimit) (hu : un + 8 * 50 < cLine) (F : Fr g L s.heap m) (N : News g L s.heap (six w x dx lt lb bf af t1 t2 t3 t4 n1 n2 tv tb l2 lb2 n3 n4 t2v tb2 ++ R))
    (h1 : m "heard" = some (.ref x)) (h6 : m "place" = some (.int p tp)) (h7 : m "due" = some (.str d td)) (hdue : 1 ≤ p → d = dueF tb2 p) (hp0 : 0 ≤ p) (hp1 : p ≤ 100) (htb : tb.map (·.1) = tb2.map (·.1)) (hfine : ∀ q ∈ tb, Fine q.1) (hl2 : tb.length ≤ 100)
    (kk : ∀ h' tk', Fr g L h' m → News g L h' (six w x dx lt lb bf af t1 t2 t3 t4 n1 n2 tv tb l2 lb2 n3 n4 t2v tb2 ++ R) → Q .next { s with heap := h', toks := tk' }) :
    wpAny (model PySem.Challenge.rw_xm0631_01.row.prog w) ({ handled := none, depth := dp, frames := some (envOf "_law_format_right" frScope L 141 (.ref 140) :: outer), guards := gd, units := un } : Around) (exec (frBody 2) (envOf "_law_format_right" frScope L 141 (.ref 140))) Q (fun _ _ => False) s := by
  revert X; k_fill; intro X
  have KM := kstMark
  with_unfolding_all show wpAny _ _ (exec (Stmt.If _ _ _ _) _) _ _ _
  (try k_fold)
  k_steps
  · refine Hold.mk ?_
    (with_unfolding_all refine' use_ro (sep_spec w x dx lt lb t1 t2 t3 t4 4 n2 bf af tb p tp ?hp1 hp1 hl2 hfine) ?B ?F ?X ?T ?N ?hf ?hke ?hin ?hdp ?hun ?_; (case B => k_asm); (case F => k_asm); (case X => k_asm); (case T => k_asm); (case N => k_asm); (case hf => rfl); (case hke => rfl); (case hdp => ktr_room); (case hun => ktr_units); (case hp1 => omega); (case hin => exact List.forall_mem_cons.mpr ⟨by k_mem, List.forall_mem_cons.mpr ⟨by k_mem, List.forall_mem_cons.mpr ⟨by k_mem, List.forall_mem_nil _⟩⟩⟩))
    rintro g1 hh1 tk1 v1 F1 N1 ⟨tt, rfl⟩
    clear F N
    k_steps
    refine Hold.mk ?_
    refine ne_same ?_ ?_
    · rw [hdue (by omega)]
      unfold dueF
      rw [htb]
      have hiff : tb = [] ↔ tb2 = [] := by
        rw [← List.map_eq_nil_iff (f := fun q : Str × Tok => q.1), htb, List.map_eq_nil_iff]
      by_cases hn : tb = []
      · rw [if_pos hn, if_pos (hiff.mp hn)]
      · rw [if_neg hn, if_neg (fun h => hn (hiff.mpr h))]
    k_steps
    (rename Fr _ _ _ _ => F9); (rename News _ _ _ _ => N9)
    exact kk _ _ F9 N9
  · (rename Fr _ _ _ _ => F9); (rename News _ _ _ _ => N9)
    exact kk _ _ F9 N9
end
-- TFmtH
section
local macro_rules | `(tactic| walk_at "exec If") => `(tactic| (refine Hold.out ?_))
local macro_rules | `(tactic| walk_at "exec Assign") => `(tactic| (refine Hold.out ?_))
theorem news_rot {h₀ h : Heap} {L : Addr} {z : Addr × Obj} {A B : List (Addr × Obj)} (N : News h₀ L h (z :: (A ++ B))) : News h₀ L h (A ++ z :: B) := news_sub N fun p hp => by
  rcases List.mem_append.mp hp with hp | hp
  · exact .tail _ (List.mem_append_left _ hp)
  rcases List.mem_cons.mp hp with rfl | hp
  · exact .head _
  · exact .tail _ (List.mem_append_right _ hp)
theorem news_back {h₀ h : Heap} {L : Addr} {z : Addr × Obj} {A B : List (Addr × Obj)} (N : News h₀ L h (A ++ z :: B)) : News h₀ L h (z :: (A ++ B)) := news_sub N fun p hp => by
  rcases List.mem_cons.mp hp with rfl | hp
  · exact List.mem_append_right _ (.head _)
  rcases List.mem_append.mp hp with hp | hp
  · exact List.mem_append_left _ hp
  · exact List.mem_append_right _ (.tail _ hp)
set_option maxHeartbeats 4000000 in
theorem fr_loop {w : World} {dp un : Nat} {gd : Option (List Code)} {outer : List Env} {A₀ : Around} {base g : Heap} {L x dx lt lb l2 lb2 pl : Addr} {m : Str → Option Value} {s : Shared} {bf af : Str × Tok} {t1 t2 t3 t4 n1 n2 n3 n4 np : Nat} {tv tb t2v tb2 : List (Str × Tok)} {a b c : Int} {ta tb' tc : Tok} {Q : Flow → Shared → Prop} {mg mb : Str → Option Value} {mean : ExcName → Option Value}
    (B : Below A₀ base outer g) (X : (Mine.hd.heap_39 w.params).In g) (T : Top Mine.hd.view_39 (looseW Mine.hd.view_39 []) mean mg mb g) (hd : dp + 50 < recursionLimit) (hu : un + 8 * 50 < cLine) (F : Fr g L s.heap m) (N : News g L s.heap (six w x dx lt lb bf af t1 t2 t3 t4 n1 n2 tv tb l2 lb2 n3 n4 t2v tb2 ++ [(pl, listOf [.int a ta, .int b tb', .int c tc].toArray np)]))
    (h0 : m "places" = some (.ref pl)) (h1 : m "heard" = some (.ref x)) (h4 : m "tokens" = some (.ref l2)) (h5 : m "between" = some (.ref lb2)) (ha : 0 ≤ a) (ha' : a ≤ 100) (hb : 0 ≤ b) (hb' : b ≤ 100) (hc : 0 ≤ c) (hc' : c ≤ 100)
    (htv : tv.map (·.1) = if t2v = [] then [Str.ofString "1"] else t2v.map (·.1)) (htb : tb.map (·.1) = tb2.map (·.1)) (f4 : ∀ q ∈ tb, Fine q.1) (f5 : ∀ q ∈ tb2, Fine q.1) (hl1 : tv.length ≤ 100) (hl2 : t2v.length ≤ 100) (hl3 : tb.length ≤ 100) (hl4 : tb2.length ≤ 100)
    (kk : ∀ h' tk' m', Fr g L h' m' → Q .next { s with heap := h', toks := tk' }) :
    wpAny (model PySem.Challenge.rw_xm0631_01.row.prog w) ({ handled := none, depth := dp, frames := some (envOf "_law_format_right" frScope L 141 (.ref 140) :: outer), guards := gd, units := un } : Around) (exec (frAt 8) (envOf "_law_format_right" frScope L 141 (.ref 140))) Q (fun _ _ => False) s := by
  revert X; k_fill; intro X
  have KM := kstMark
  with_unfolding_all show wpAny _ _ (exec (Stmt.For _ _ _ _ _) _) _ _ _
  (try k_fold)
  k_steps
  refine Hold.mk ?_
  (rename Fr _ _ _ _ => F9); (rename News _ _ _ _ => N9)
  (with_unfolding_all refine fr_b1 (by assumption) (by assumption) (by assumption) (by assumption) (by assumption) F9 (news_rot N9) ‹_› ‹_› rfl ha ha' ‹_› ‹_› ‹_› ?_)
  clear F9 N9
  intro h9 tk9 F9 N9
  (try dsimp only)
  k_steps
  refine Hold.mk ?_
  (with_unfolding_all refine fr_b2 (by assumption) (by assumption) (by assumption) F9 N9 ‹_› rfl ha ha' ‹_› ‹_› ?_)
  clear F9 N9
  intro h9 tk9 d9 td9 hd9 F9 N9
  (try dsimp only)
  k_steps
  refine Hold.mk ?_
  (with_unfolding_all refine fr_b3 (by assumption) (by assumption) (by assumption) (by assumption) (by assumption) F9 N9 ‹_› rfl rfl hd9 ha ha' ‹_› ‹_› ‹_› ?_)
  clear F9 N9
  intro h9 tk9 F9 N9
  replace N9 := news_back N9
  (try dsimp only)
  k_steps
  refine Hold.mk ?_
  (rename Fr _ _ _ _ => F9); (rename News _ _ _ _ => N9)
  (with_unfolding_all refine fr_b1 (by assumption) (by assumption) (by assumption) (by assumption) (by assumption) F9 (news_rot N9) ‹_› ‹_› rfl hb hb' ‹_› ‹_› ‹_› ?_)
  clear F9 N9
  intro h9 tk9 F9 N9
  (try dsimp only)
  k_steps
  refine Hold.mk ?_
  (with_unfolding_all refine fr_b2 (by assumption) (by assumption) (by assumption) F9 N9 ‹_› rfl hb hb' ‹_› ‹_› ?_)
  clear F9 N9
  intro h9 tk9 d9 td9 hd9 F9 N9
  (try dsimp only)
  k_steps
  refine Hold.mk ?_
  (with_unfolding_all refine fr_b3 (by assumption) (by assumption) (by assumption) (by assumption) (by assumption) F9 N9 ‹_› rfl rfl hd9 hb hb' ‹_› ‹_› ‹_› ?_)
  clear F9 N9
  intro h9 tk9 F9 N9
  replace N9 := news_back N9
  (try dsimp only)
  k_steps
  refine Hold.mk ?_
  (rename Fr _ _ _ _ => F9); (rename News _ _ _ _ => N9)
  (with_unfolding_all refine fr_b1 (by assumption) (by assumption) (by assumption) (by assumption) (by assumption) F9 (news_rot N9) ‹_› ‹_› rfl hc hc' ‹_› ‹_› ‹_› ?_)
  clear F9 N9
  intro h9 tk9 F9 N9
  (try dsimp only)
  k_steps
  refine Hold.mk ?_
  (with_unfolding_all refine fr_b2 (by assumption) (by assumption) (by assumption) F9 N9 ‹_› rfl hc hc' ‹_› ‹_› ?_)
  clear F9 N9
  intro h9 tk9 d9 td9 hd9 F9 N9
  (try dsimp only)
  k_steps
  refine Hold.mk ?_
  (with_unfolding_all refine fr_b3 (by assumption) (by assumption) (by assumption) (by assumption) (by assumption) F9 N9 ‹_› rfl rfl hd9 hc hc' ‹_› ‹_› ‹_› ?_)
  clear F9 N9
  intro h9 tk9 F9 N9
  replace N9 := news_back N9
  (try dsimp only)
  k_steps
  (rename Fr _ _ _ _ => F9)
  exact kk _ _ _ F9
end
-- TFmtR
section
local macro_rules | `(tactic| walk_at "call ref") => `(tactic| (refine Hold.out ?_))
set_option maxHeartbeats 4000000 in
theorem fr_runs {w : World} {dp un : Nat} {gd : Option (List Code)} {outer : List Env} {A₀ : Around} {base g : Heap} {L : Addr} {m : Str → Option Value} {s : Shared} {R : List (Addr × Obj)} {k : Str} {t : Tok} {Q : Flow → Shared → Prop} {mg mb : Str → Option Value} {mean : ExcName → Option Value}
    (B : Below A₀ base outer g) (X : (Mine.hd.heap_39 w.params).In g) (T : Top Mine.hd.view_39 (looseW Mine.hd.view_39 []) mean mg mb g) (F : Fr g L s.heap m) (N : News g L s.heap R) (h2 : m "text" = some (.str k t)) (hk : k.length ≤ 9) (hf : Fine k) (hcd : ∀ c ∈ k.cps.toList, c ∈ codes)
    (hd : dp + 50 < recursionLimit) (hu : un + 8 * 50 < cLine)
    (kk : ∀ h' tk' lr n ps, IGood ps → ps.map Pc.pr = cutF isTok k.cps.toList → Fr g L h' (fun y => if y = Str.ofString "runs" then some (.ref lr) else m y) → News g L h' (R ++ ((lr, listOf (ps.map Pc.val).toArray n) :: ps.map Pc.lst)) → Q .next { s with heap := h', toks := tk' }) :
    wpAny (model PySem.Challenge.rw_xm0631_01.row.prog w) ({ handled := none, depth := dp, frames := some (envOf "_law_format_right" frScope L 141 (.ref 140) :: outer), guards := gd, units := un } : Around) (exec (frAt 0) (envOf "_law_format_right" frScope L 141 (.ref 140))) Q (fun _ _ => False) s := by
  revert X; k_fill; intro X
  have KM := kstMark
  with_unfolding_all show wpAny _ _ (exec (Stmt.Assign _ _ _) _) _ _ _
  (try k_fold)
  k_steps
  refine Hold.mk ?_
  (with_unfolding_all refine' use_pure (runs_spec w k _ hk hf hcd) ?B ?F ?X ?T ?N ?hf ?hke ?hdp ?hun ?_; (case B => k_asm); (case F => k_asm); (case X => k_asm); (case T => k_asm); (case N => k_asm); (case hf => rfl); (case hke => rfl); (case hdp => ktr_room); (case hun => ktr_units))
  rintro g1 hh1 tk1 v1 F1 N1 hfr ⟨lr, n1, ps, rfl, hl, hgl, hps, hfine, hlen, hpr⟩
  have N2 : News g L hh1 (R ++ ((lr, listOf (ps.map Pc.val).toArray n1) :: ps.map Pc.lst)) := news_app N1 (news_cons (fun p hp => by
    obtain ⟨q, hq, rfl⟩ := List.mem_map.mp hp
    exact ⟨(hps q hq).1, (hfr q.a (hps q hq).2).1, (hfr q.a (hps q hq).2).2.1⟩) hl ⟨(hfr lr hgl).1, (hfr lr hgl).2.1⟩)
  clear F N N1
  k_steps
  (rename Fr _ _ _ _ => F9); (rename News _ _ _ _ => N9)
  refine kk _ _ lr n1 ps ⟨hfine, hlen⟩ (hpr.trans (cutF_congr fun c hc => (isTok_codes c (hcd c hc)).symm)) F9 N9
set_option maxHeartbeats 4000000 in
theorem format_spec (w : World) (k : Str) (t : Nat) (pl : Addr) (a b c : Int) (ta tb tc np : Nat) (hkl : k.length ≤ 9) (hkf : Fine k) (hcd : ∀ c ∈ k.cps.toList, c ∈ codes) (ha : 0 ≤ a) (ha' : a ≤ 100) (hb : 0 ≤ b) (hb' : b ≤ 100) (hc : 0 ≤ c) (hc' : c ≤ 100) :
    Spec w 141 [.str k t, .ref pl] (fun _ => True) [(pl, listOf [.int a ta, .int b tb, .int c tc].toArray np)] 60 (fun _ _ v => v = .bool true) := by
  unfold Spec
  k_fill
  intro mg mb mean dp un gd base g env outer s B X T hk hz hpre ht hd hu
  k_dflt (refine' enter B X T hk hz ht ?k6 ?k7 ?k8 ?k9 ?kB ?_ ?c2 ?c3 ?c4 ?c5; (case k6 => k_is); (case k7 => k_is); (case k8 => ktr_room); (case k9 => exact BindsTo.of_eq rfl); (case c5 => decide); (case kB => exact locs rfl); (case c2 => exact rfl); (case c3 => exact rfl); (case c4 => exact rfl); k_whole; intro L' h' F' N' l1; (try k_lt l1); (try dsimp only); (try k_fold))
  clear hk hz ht
  refine wpAny_execs_cons ?_
  with_unfolding_all refine' fr_runs ?B X ?T F' N' rfl hkl hkf hcd ?hd ?hu ?_
  case B => k_asm
  case T => k_asm
  case hd => ktr_room
  case hu => ktr_units
  clear F' N'
  intro h' tk' lr n ps G hpr F N
  (try dsimp only)
  have hbox : ((pl, listOf [.int a ta, .int b tb, .int c tc].toArray np) : Addr × Obj) ∈ ((pl, listOf [.int a ta, .int b tb, .int c tc].toArray np) : Addr × Obj) :: ps.map Pc.lst := .head _
  have hps : ∀ p ∈ ps, p.lst ∈ ((pl, listOf [.int a ta, .int b tb, .int c tc].toArray np) : Addr × Obj) :: ps.map Pc.lst := fun p hp => .tail _ (List.mem_map.mpr ⟨p, hp, rfl⟩)
  generalize hR : ((pl, listOf [.int a ta, .int b tb, .int c tc].toArray np) : Addr × Obj) :: ps.map Pc.lst = R at hps hbox
  have N1 := news_sub (b := (lr, listOf (ps.map Pc.val).toArray n) :: R) N fun p hp => by
    rcases List.mem_cons.mp hp with rfl | hp
    · exact .tail _ (.head _)
    rw [← hR] at hp
    rcases List.mem_cons.mp hp with rfl | hp
    · exact .head _
    · exact .tail _ (.tail _ hp)
  clear N
  have hne : ∀ p ∈ ps, p.t ≠ Str.ofString "" := fun p hp => cutF_ne isTok k.cps.toList p.pr (hpr ▸ List.mem_map.mpr ⟨p, hp, rfl⟩)
  refine wpAny_execs_cons ?_
  with_unfolding_all refine' fr_if1 ?B X ?T F N1 hps rfl rfl G hkl hkf hpr ?hd ?hu ?_
  case B => k_asm
  case T => k_asm
  case hd => ktr_room
  case hu => ktr_units
  clear F N1
  intro h2 tk2 F N1
  (try dsimp only)
  refine wpAny_execs_cons ?_
  with_unfolding_all refine' fr_two ?B X ?T F N1 hps rfl rfl G hkl hkf ?hd ?hu ?_
  case B => k_asm
  case T => k_asm
  case hd => ktr_room
  case hu => ktr_units
  clear F N1
  intro h3 tk3 m' x dx lt lb bf af t1 t2 t3 t4 n1 n2 tv tbb l2 n3 t2v F N hF hFP ht2 hm1 hm2 hm3
  (try dsimp only)
  have hr : m' "runs" = some (.ref lr) := (hm3 _ (by decide) (by decide)).trans rfl
  have hpl : m' "places" = some (.ref pl) := (hm3 _ (by decide) (by decide)).trans rfl
  have N1 := news_sub (b := (lr, listOf (ps.map Pc.val).toArray n) :: (fresh4 w x dx lt lb bf af t1 t2 t3 t4 n1 n2 tv tbb ++ (l2, listOf (t2v.map tval).toArray n3) :: R)) N fun p hp => by
    rcases List.mem_cons.mp hp with rfl | hp
    · exact List.mem_append_right _ (.tail _ (.head _))
    rcases List.mem_append.mp hp with hp | hp
    · exact List.mem_append_left _ hp
    rcases List.mem_cons.mp hp with rfl | hp
    · exact List.mem_append_right _ (.head _)
    · exact List.mem_append_right _ (.tail _ (.tail _ hp))
  clear N
  have hps2 : ∀ p ∈ ps, p.lst ∈ fresh4 w x dx lt lb bf af t1 t2 t3 t4 n1 n2 tv tbb ++ (l2, listOf (t2v.map tval).toArray n3) :: R := fun p hp => List.mem_append_right _ (.tail _ (hps p hp))
  refine wpAny_execs_cons ?_
  with_unfolding_all refine' fr_lead X ?hu F N1 hps2 hr G ?_
  case hu => ktr_units
  clear F N1
  intro h4 tk4 u4 F N1
  (try dsimp only)
  refine wpAny_execs_cons ?_
  with_unfolding_all refine' fr_rest X ?hu F N1 hr rfl G hne ?_
  case hu => ktr_units
  clear F N1
  intro h5 tk5 lr2 n5 ps2 e2 hs2 G2 F N1
  (try dsimp only)
  refine wpAny_execs_cons ?_
  with_unfolding_all refine' fr_tail X ?hu F N1 (fun p hp => hps2 p (hs2 p hp)) rfl G2 ?_
  case hu => ktr_units
  clear F N1
  intro h6 tk6 u6 F N1
  (try dsimp only)
  refine wpAny_execs_cons ?_
  with_unfolding_all refine' fr_betw X ?hu F N1 (fun p hp => hps2 p (hs2 p hp)) rfl rfl G2 (fun p hp => hne p (hs2 p hp)) ?_
  case hu => ktr_units
  clear F N1
  intro h7 tk7 lb2 n6 tb2 htb2 F N
  (try dsimp only)
  rw [hpr] at e2
  have K := kept_of hF hFP (t2v := t2v) (by rw [ht2, ← hpr]; exact filt_t ps (fun b => b))
  have htb : tbb.map (·.1) = tb2.map (·.1) := by rw [htb2, e2, hF.tb]
  rw [hpr, e2] at F
  have N1 := news_sub (b := six w x dx lt lb bf af t1 t2 t3 t4 n1 n2 tv tbb l2 lb2 n3 n6 t2v tb2 ++ [(pl, listOf [.int a ta, .int b tb, .int c tc].toArray np)]) N fun p hp => by
    rcases List.mem_cons.mp hp with rfl | hp
    · exact .tail _ (.head _)
    rcases List.mem_cons.mp hp with rfl | hp
    · exact .tail _ (.tail _ (.head _))
    rcases List.mem_cons.mp hp with rfl | hp
    · exact .tail _ (.tail _ (.tail _ (.head _)))
    rcases List.mem_cons.mp hp with rfl | hp
    · exact .tail _ (.tail _ (.tail _ (.tail _ (.head _))))
    rcases List.mem_cons.mp hp with rfl | hp
    · exact .tail _ (.tail _ (.tail _ (.tail _ (.tail _ (.head _)))))
    rcases List.mem_cons.mp hp with rfl | hp
    · exact .head _
    rw [List.mem_singleton.mp hp]
    exact .tail _ (.tail _ (.tail _ (.tail _ (.tail _ (.tail _ hbox)))))
  clear N
  refine wpAny_execs_cons ?_
  with_unfolding_all refine' fr_if2 X ?hu F N1 hm1 rfl rfl hm2 rfl hF.bf hF.af K.htv htb K.f1 K.f2 K.f3 K.f4 K.l2 ?_
  case hu => ktr_units
  clear F N1
  intro h8 tk8 F N1
  (try dsimp only)
  refine wpAny_execs_cons ?_
  with_unfolding_all refine' fr_loop ?B X ?T ?hd ?hu F N1 hpl hm1 hm2 rfl ha ha' hb hb' hc hc' K.htv htb (fun q hq => K.f4 _ (List.mem_map.mpr ⟨q, hq, rfl⟩)) (fun q hq => K.f4 _ (htb ▸ List.mem_map.mpr ⟨q, hq, rfl⟩)) (by simpa using K.l1) K.l2 (by simpa using K.l3) (by have := K.l3; rw [htb] at this; simpa using this) ?_
  case B => k_asm
  case T => k_asm
  case hd => ktr_room
  case hu => ktr_units
  clear F N1
  intro h9 tk9 m9 F
  (try dsimp only)
  k_steps
  exact After.intro F rfl
end
-- TLawA
section
open PySem PySem.W PyProof.Rows PySem.Calls PyProof.V PySem.Spec PyProof.Rows.LCg PyProof.Rows.LCt
local macro_rules | `(tactic| walk_at "idle") => `(tactic| skip)
local macro_rules | `(tactic| walk_at "call ref") => `(tactic| (refine Hold.out ?_))
theorem abc_cut : cutF isTok (Str.ofString "a-b.c").cps.toList = [(true, Str.ofString "a"), (false, Str.ofString "-"), (true, Str.ofString "b"), (false, Str.ofString "."), (true, Str.ofString "c")] := by decide +kernel
theorem abc_betw {bf af : Str} {tv tb : List Str} (h : FmtOf (cutF isTok (Str.ofString "a-b.c").cps.toList) bf af tv tb) : tb = [Str.ofString "-", Str.ofString "."] := by
  rw [h.tb, abc_cut]; rfl
theorem abc_sep {tb : List (Str × Tok)} (h : tb.map (·.1) = [Str.ofString "-", Str.ofString "."]) (p : Int) : (if tb = [] then Str.ofString "." else lastAt (tb.map (·.1)) (p - 1)) = lastAt [Str.ofString "-", Str.ofString "."] (p - 1) := by
  rw [if_neg (fun e => by rw [e] at h; cases h), h]
theorem abc_fine : Fine (Str.ofString "a-b.c") := by show PyData.strOk _ = true; decide +kernel
theorem abc_tb {tb : List (Str × Tok)} (h : tb.map (·.1) = [Str.ofString "-", Str.ofString "."]) : tb.length ≤ 100 ∧ ∀ q ∈ tb, Fine q.1 := by
  constructor
  · have := congrArg List.length h
    simp at this
    omega
  · intro q hq
    have : q.1 ∈ tb.map (·.1) := List.mem_map.mpr ⟨q, hq, rfl⟩
    rw [h] at this
    rcases List.mem_cons.mp this with e | this
    · rw [e]; show PyData.strOk _ = true; decide +kernel
    · rw [List.mem_singleton.mp this]; show PyData.strOk _ = true; decide +kernel
def lawDef : Stmt := nthS PySem.Challenge.pw_xm0631_01.main.body 16
def lawScope : Scope := scopeOf lawDef
def lawAt (i : Nat) : Stmt := nthS (bodyOf lawDef) i
set_option maxHeartbeats 4000000 in
theorem law_if1 {w : World} {dp un : Nat} {gd : Option (List Code)} {outer : List Env} {A₀ : Around} {base g : Heap} {L fa : Addr} {cdv : Value} {m : Str → Option Value} {s : Shared} {R : List (Addr × Obj)} {Q : Flow → Shared → Prop} {E : Value → Shared → Prop} {mg mb : Str → Option Value} {mean : ExcName → Option Value}
    (B : Below A₀ base outer g) (X : (Mine.hd.heap_39 w.params).In g) (T : Top Mine.hd.view_39 (looseW Mine.hd.view_39 []) mean mg mb g) (F : Fr g L s.heap m) (N : News g L s.heap R)
    (hd : dp + 60 < recursionLimit) (hu : un + 8 * 60 < cLine)
    (kk : ∀ h' tk', Fr g L h' m → News g L h' R → Q .next { s with heap := h', toks := tk' }) :
    wpAny (model PySem.Challenge.rw_xm0631_01.row.prog w) ({ handled := none, depth := dp, frames := some (envOfC "law" lawScope L fa cdv :: outer), guards := gd, units := un } : Around) (exec (lawAt 0) (envOfC "law" lawScope L fa cdv)) Q E s := by
  revert X; k_fill; intro X
  have KM := kstMark
  with_unfolding_all show wpAny _ _ (exec (Stmt.If _ _ _ _) _) _ _ _
  (try k_fold)
  k_steps
  refine Hold.mk ?_
  with_unfolding_all refine ListComp_U (cl := []) F rfl (by decide) rfl (by decide) rfl ?_
  k_steps
  refine Hold.mk ?_
  (with_unfolding_all refine' fmt_call (k := Str.ofString "a-b.c") (by decide) abc_fine ?B ?F ?X ?T ?N ?hf ?hke ?hdp ?hun ?_; (case B => k_asm); (case F => k_asm); (case X => k_asm); (case T => k_asm); (case N => k_asm); (case hf => rfl); (case hke => rfl); (case hdp => ktr_room); (case hun => ktr_units))
  intro x9 dx9 lt9 lb9 bf9 af9 u1 u2 u3 u4 u5 u6 tv9 tb9 h9 tk9 F9 N9 hF9 hP9
  (have hb9 := abc_betw hF9); (have ht9 := abc_tb hb9); clear hF9 hP9
  (try dsimp only at N9)
  k_steps
  refine Hold.mk ?_
  (with_unfolding_all refine' use_ro (sep_spec _ x9 dx9 lt9 lb9 u1 u2 u3 u4 4 u6 bf9 af9 tb9 _ _ ?hp1 ?hp2 ht9.1 ht9.2) ?B ?F ?X ?T ?N ?hf ?hke ?hin ?hdp ?hun ?_; (case B => k_asm); (case F => k_asm); (case X => k_asm); (case T => k_asm); (case N => k_asm); (case hf => rfl); (case hke => rfl); (case hdp => ktr_room); (case hun => ktr_units); (case hp1 => omega); (case hp2 => omega); (case hin => exact List.forall_mem_cons.mpr ⟨by k_mem, List.forall_mem_cons.mpr ⟨by k_mem, List.forall_mem_cons.mpr ⟨by k_mem, List.forall_mem_nil _⟩⟩⟩))
  clear F9 N9
  rintro g9 h9 tk9 v9 F9 N9 ⟨tt9, ev9⟩
  rw [abc_sep hb9] at ev9
  subst ev9
  k_steps
  (refine CompEnd.intro F9 N9 _ (fun p hp => List.mem_append_right _ hp) (by assumption) trivial ?_)
  clear F9 N9 hb9 ht9
  k_steps
  refine Hold.mk ?_
  (with_unfolding_all refine' fmt_call (k := Str.ofString "a-b.c") (by decide) abc_fine ?B ?F ?X ?T ?N ?hf ?hke ?hdp ?hun ?_; (case B => k_asm); (case F => k_asm); (case X => k_asm); (case T => k_asm); (case N => k_asm); (case hf => rfl); (case hke => rfl); (case hdp => ktr_room); (case hun => ktr_units))
  intro x9 dx9 lt9 lb9 bf9 af9 u1 u2 u3 u4 u5 u6 tv9 tb9 h9 tk9 F9 N9 hF9 hP9
  (have hb9 := abc_betw hF9); (have ht9 := abc_tb hb9); clear hF9 hP9
  (try dsimp only at N9)
  k_steps
  refine Hold.mk ?_
  (with_unfolding_all refine' use_ro (sep_spec _ x9 dx9 lt9 lb9 u1 u2 u3 u4 4 u6 bf9 af9 tb9 _ _ ?hp1 ?hp2 ht9.1 ht9.2) ?B ?F ?X ?T ?N ?hf ?hke ?hin ?hdp ?hun ?_; (case B => k_asm); (case F => k_asm); (case X => k_asm); (case T => k_asm); (case N => k_asm); (case hf => rfl); (case hke => rfl); (case hdp => ktr_room); (case hun => ktr_units); (case hp1 => omega); (case hp2 => omega); (case hin => exact List.forall_mem_cons.mpr ⟨by k_mem, List.forall_mem_cons.mpr ⟨by k_mem, List.forall_mem_cons.mpr ⟨by k_mem, List.forall_mem_nil _⟩⟩⟩))
  clear F9 N9
  rintro g9 h9 tk9 v9 F9 N9 ⟨tt9, ev9⟩
  rw [abc_sep hb9] at ev9
  subst ev9
  k_steps
  (refine CompEnd.intro F9 N9 _ (fun p hp => List.mem_append_right _ hp) (by assumption) trivial ?_)
  clear F9 N9 hb9 ht9
  k_steps
  refine Hold.mk ?_
  (with_unfolding_all refine' fmt_call (k := Str.ofString "a-b.c") (by decide) abc_fine ?B ?F ?X ?T ?N ?hf ?hke ?hdp ?hun ?_; (case B => k_asm); (case F => k_asm); (case X => k_asm); (case T => k_asm); (case N => k_asm); (case hf => rfl); (case hke => rfl); (case hdp => ktr_room); (case hun => ktr_units))
  intro x9 dx9 lt9 lb9 bf9 af9 u1 u2 u3 u4 u5 u6 tv9 tb9 h9 tk9 F9 N9 hF9 hP9
  (have hb9 := abc_betw hF9); (have ht9 := abc_tb hb9); clear hF9 hP9
  (try dsimp only at N9)
  k_steps
  refine Hold.mk ?_
  (with_unfolding_all refine' use_ro (sep_spec _ x9 dx9 lt9 lb9 u1 u2 u3 u4 4 u6 bf9 af9 tb9 _ _ ?hp1 ?hp2 ht9.1 ht9.2) ?B ?F ?X ?T ?N ?hf ?hke ?hin ?hdp ?hun ?_; (case B => k_asm); (case F => k_asm); (case X => k_asm); (case T => k_asm); (case N => k_asm); (case hf => rfl); (case hke => rfl); (case hdp => ktr_room); (case hun => ktr_units); (case hp1 => omega); (case hp2 => omega); (case hin => exact List.forall_mem_cons.mpr ⟨by k_mem, List.forall_mem_cons.mpr ⟨by k_mem, List.forall_mem_cons.mpr ⟨by k_mem, List.forall_mem_nil _⟩⟩⟩))
  clear F9 N9
  rintro g9 h9 tk9 v9 F9 N9 ⟨tt9, ev9⟩
  rw [abc_sep hb9] at ev9
  subst ev9
  k_steps
  (refine CompEnd.intro F9 N9 _ (fun p hp => List.mem_append_right _ hp) (by assumption) trivial ?_)
  clear F9 N9 hb9 ht9
  k_steps
  refine Hold.mk ?_
  (with_unfolding_all refine' fmt_call (k := Str.ofString "a-b.c") (by decide) abc_fine ?B ?F ?X ?T ?N ?hf ?hke ?hdp ?hun ?_; (case B => k_asm); (case F => k_asm); (case X => k_asm); (case T => k_asm); (case N => k_asm); (case hf => rfl); (case hke => rfl); (case hdp => ktr_room); (case hun => ktr_units))
  intro x9 dx9 lt9 lb9 bf9 af9 u1 u2 u3 u4 u5 u6 tv9 tb9 h9 tk9 F9 N9 hF9 hP9
  (have hb9 := abc_betw hF9); (have ht9 := abc_tb hb9); clear hF9 hP9
  (try dsimp only at N9)
  k_steps
  refine Hold.mk ?_
  (with_unfolding_all refine' use_ro (sep_spec _ x9 dx9 lt9 lb9 u1 u2 u3 u4 4 u6 bf9 af9 tb9 _ _ ?hp1 ?hp2 ht9.1 ht9.2) ?B ?F ?X ?T ?N ?hf ?hke ?hin ?hdp ?hun ?_; (case B => k_asm); (case F => k_asm); (case X => k_asm); (case T => k_asm); (case N => k_asm); (case hf => rfl); (case hke => rfl); (case hdp => ktr_room); (case hun => ktr_units); (case hp1 => omega); (case hp2 => omega); (case hin => exact List.forall_mem_cons.mpr ⟨by k_mem, List.forall_mem_cons.mpr ⟨by k_mem, List.forall_mem_cons.mpr ⟨by k_mem, List.forall_mem_nil _⟩⟩⟩))
  clear F9 N9
  rintro g9 h9 tk9 v9 F9 N9 ⟨tt9, ev9⟩
  rw [abc_sep hb9] at ev9
  subst ev9
  k_steps
  (refine CompEnd.intro F9 N9 _ (fun p hp => List.mem_append_right _ hp) (by assumption) trivial ?_)
  clear F9 N9 hb9 ht9
  k_steps
  refine Hold.mk ?_
  (rename News _ _ _ _ => N9)
  have hL := N9.get (.tail _ (.head _))
  have hR := N9.get (.head _)
  have rL := reads_list_at hL rfl rfl (ReadsAll.cons (Reads.str _ _) (ReadsAll.cons (Reads.str _ _) (ReadsAll.cons (Reads.str _ _) (ReadsAll.cons (Reads.str _ _) ReadsAll.nil))))
  have rR := reads_list_at hR rfl rfl (ReadsAll.cons (Reads.str _ _) (ReadsAll.cons (Reads.str _ _) (ReadsAll.cons (Reads.str _ _) (ReadsAll.cons (Reads.str _ _) ReadsAll.nil))))
  refine ne_dataH rL rR (by decide +kernel) (by decide +kernel) (by ke_room) ?_
  rw [show (!PyData.eqv (.list [.str (lastAt [Str.ofString "-", Str.ofString "."] (1 + ((0 : Nat) : Int) - 1)), .str (lastAt [Str.ofString "-", Str.ofString "."] (1 + ((0 + 1 : Nat) : Int) - 1)), .str (lastAt [Str.ofString "-", Str.ofString "."] (1 + ((0 + 1 + 1 : Nat) : Int) - 1)), .str (lastAt [Str.ofString "-", Str.ofString "."] (1 + ((0 + 1 + 1 + 1 : Nat) : Int) - 1))]) (.list [.str (Str.ofString "-"), .str (Str.ofString "."), .str (Str.ofString "."), .str (Str.ofString ".")])) = false by decide +kernel]
  k_steps
  (rename Fr _ _ _ _ => F9); (rename News _ _ _ _ => N9)
  first | exact kk _ _ F9 (news_sub N9 fun p hp => .tail _ (.tail _ hp))
end
-- TLawB
section
open PySem PySem.W PyProof.Rows PySem.Calls PyProof.V PySem.Spec PyProof.Rows.LCg PyProof.Rows.LCt
local macro_rules | `(tactic| walk_at "call ref") => `(tactic| (refine Hold.out ?_))
set_option maxHeartbeats 4000000 in
theorem law_src {w : World} {dp un : Nat} {gd : Option (List Code)} {outer : List Env} {A₀ : Around} {base g : Heap} {L fa ls : Addr} {cdv : Value} {o1 o2 : Obj} {m : Str → Option Value} {s : Shared} {vs : List Value} {ns : List Int} {Q : Flow → Shared → Prop} {E : Value → Shared → Prop} {mg mb : Str → Option Value} {mean : ExcName → Option Value}
    (B : Below A₀ base outer g) (X : (Mine.hd.heap_39 w.params).In g) (T : Top Mine.hd.view_39 (looseW Mine.hd.view_39 []) mean mg mb g) (F : Fr g L s.heap m) (N : News g L s.heap [(L + 1 + 1, o1), (L + 1, o2)]) (d1 : o1.data = .cell none) (d2 : o2.data = .cell none) (h1 : m "script" = some (.ref ls)) (hl : g.IsList ls vs.toArray) (hi : IntsAre vs ns) (hlen : ns.length ≤ 63)
    (hd : dp + 60 < recursionLimit) (hu : un + 8 * 60 < cLine)
    (kk : ∀ h' tk' a x y tx ty n o3, SrcOk x y → (@Ne Nat a (L + 1 + 1)) → (@Ne Nat a (L + 1)) → Fr g L h' m → News g L h' [(a, src x y tx ty n), (L + 1 + 1, o1), (L + 1, o3)] → o3.data = .cell (some (.ref a)) → Q .next { s with heap := h', toks := tk' }) :
    wpAny (model PySem.Challenge.rw_xm0631_01.row.prog w) ({ handled := none, depth := dp, frames := some (envOfC "law" lawScope L fa cdv :: outer), guards := gd, units := un } : Around) (exec (lawAt 1) (envOfC "law" lawScope L fa cdv)) Q E s := by
  revert X; k_fill; intro X
  have KM := kstMark
  with_unfolding_all show wpAny _ _ (exec (Stmt.Assign _ _ _) _) _ _ _
  (try k_fold)
  k_steps
  refine Hold.mk ?_
  (with_unfolding_all refine' use_spec (pool_spec w ls vs ns _ hi hlen) [(L + 1 + 1, o1), (L + 1, o2)] ?B ?F ?X ?T ?N ?hf ?hke (fun _ h => nomatch h) (fun _ h => h) (fun _ _ _ h => nomatch h) ?hpre ?hdp ?hun ?_; (case B => k_asm); (case F => k_asm); (case X => k_asm); (case T => k_asm); (case N => k_asm); (case hf => rfl); (case hke => rfl); (case hdp => ktr_room); (case hun => ktr_units))
  case hpre => exact fun g2 _ hk => by obtain ⟨o, ho, r⟩ := hl; exact ⟨o, hk _ _ ho, r⟩
  rintro g1 hh1 tk1 v1 F1 N1 hfr ⟨a, x, y, tx, ty, n, rfl, x0, y0, y1, hA, hgA⟩
  have N2 := news_cons N1 hA ⟨(hfr a hgA).1, (hfr a hgA).2.1⟩
  clear F N N1
  k_steps
  (rename Fr _ _ _ _ => F9); (rename News _ _ _ _ => N9); (rename _ = Data.cell (some _) => d9)
  exact kk _ _ a x y tx ty n _ ⟨x0, y0, y1⟩ ((hfr a hgA).2.2 _ (.head _)) ((hfr a hgA).2.2 _ (.tail _ (.head _))) F9 N9 d9
end
-- TLawC
section
open PySem PySem.W PyProof.Rows PySem.Calls PyProof.V PySem.Spec PyProof.Rows.LCg PyProof.Rows.LCt
def CodeV (v : Value) : Prop := ∃ c t, v = .str (sg c) t ∧ c ∈ codes
theorem codeV {x : Str} {t : Tok} (c : Nat) (e : x = sg c) (h : c ∈ codes) : CodeV (.str x t) := ⟨c, t, by rw [e], h⟩
set_option maxHeartbeats 4000000 in
theorem law_signs {w : World} {dp un : Nat} {gd : Option (List Code)} {outer : List Env} {g : Heap} {L fa a : Addr} {cdv : Value} {oS o1 o3 : Obj} {m : Str → Option Value} {s : Shared} {Q : Flow → Shared → Prop} {E : Value → Shared → Prop}
    (X : (Mine.hd.heap_39 w.params).In g) (F : Fr g L s.heap m) (N : News g L s.heap [(a, oS), (L + 1 + 1, o1), (L + 1, o3)]) (d1 : o1.data = .cell none) (d3 : o3.data = .cell (some (.ref a))) (ne1 : @Ne Nat a (L + 1 + 1)) (ne2 : @Ne Nat a (L + 1))
    (kk : ∀ h' tk' l vs o4, (∀ v ∈ vs, CodeV v) → vs.length = 10 → (@Ne Nat l (L + 1 + 1)) → (@Ne Nat l (L + 1)) → (@Ne Nat l a) → Fr g L h' m → News g L h' [(l, listOf (List.toArray vs) 0), (a, oS), (L + 1 + 1, o4), (L + 1, o3)] → o4.data = .cell (some (.ref l)) → Q .next { s with heap := h', toks := tk' }) :
    wpAny (model PySem.Challenge.rw_xm0631_01.row.prog w) ({ handled := none, depth := dp, frames := some (envOfC "law" lawScope L fa cdv :: outer), guards := gd, units := un } : Around) (exec (lawAt 2) (envOfC "law" lawScope L fa cdv)) Q E s := by
  revert X; k_fill; intro X
  have KM := kstMark
  with_unfolding_all show wpAny _ _ (exec (Stmt.Assign _ _ _) _) _ _ _
  (try k_fold)
  k_steps
  rename_i l9 _ l1 h9 o9 F9 N9 d9
  obtain ⟨la, lb, lc⟩ := l1
  refine kk _ _ l9 _ o9 ?_ ?_ (Ne.symm (Nat.ne_of_lt lb)) (Ne.symm (Nat.ne_of_lt lc)) (Ne.symm (Nat.ne_of_lt la)) F9 N9 d9
  · exact List.forall_mem_cons.mpr ⟨codeV 97 (by decide) (by decide), List.forall_mem_cons.mpr ⟨codeV 49 (by decide) (by decide), List.forall_mem_cons.mpr ⟨codeV 48 (by decide) (by decide), List.forall_mem_cons.mpr ⟨codeV 73 (by decide) (by decide), List.forall_mem_cons.mpr ⟨codeV 233 (by decide +kernel) (by decide), List.forall_mem_cons.mpr ⟨codeV 46 (by decide) (by decide), List.forall_mem_cons.mpr ⟨codeV 45 (by decide) (by decide), List.forall_mem_cons.mpr ⟨codeV 40 (by decide) (by decide), List.forall_mem_cons.mpr ⟨codeV 41 (by decide) (by decide), List.forall_mem_cons.mpr ⟨codeV 32 (by decide) (by decide), List.forall_mem_nil _⟩⟩⟩⟩⟩⟩⟩⟩⟩⟩
  · rfl
end
-- FJoin
section
def svOne (q : Nat × Tok) : Str := sg q.1
theorem emp_cps : (Str.ofString "").cps = #[] := by decide
theorem glue_aux : ∀ (r : List (Nat × Tok)) (acc : Array Nat), ((r.map svOne).foldl (fun acc (p : Str) => acc ++ (Str.ofString "").cps ++ p.cps) acc).toList = acc.toList ++ r.map (·.1) := by
  intro r
  induction r with
  | nil => intro acc; simp
  | cons q r ih =>
    intro acc
    rw [List.map_cons, List.foldl_cons, ih, emp_cps]
    simp [svOne, sg]
theorem join_codes (sv : List (Nat × Tok)) : (Txt.join (Str.ofString "") (sv.map svOne)).cps.toList = sv.map (·.1) := by
  show (Builtin.Str.glued (Str.ofString "") (sv.map svOne)).cps.toList = _
  cases sv with
  | nil => decide
  | cons q r =>
    show (((r.map svOne).foldl (fun acc (p : Str) => acc ++ (Str.ofString "").cps ++ p.cps) (sg q.1).cps)).toList = _
    rw [glue_aux]; simp [sg]
theorem codes_small : ∀ c ∈ codes, c < 0x110000 := by decide
theorem fine_codes {k : Str} (h : ∀ c ∈ k.cps.toList, c ∈ codes) : Fine k := by
  have : k.cps.toList.all (fun x => decide (x < 0x110000)) = true := List.all_eq_true.mpr fun c hc => decide_eq_true (codes_small c (h c hc))
  simpa [Fine, PyData.strOk] using this
theorem sv_strs : ∀ sv : List (Nat × Tok), StrsAre (sv.map fun q => Value.str (sg q.1) q.2) (sv.map svOne)
  | [] => .nil
  | q :: r => .cons _ _ (sv_strs r)
theorem sv_carried (sv : List (Nat × Tok)) : CarriedAll (sv.map fun q => Value.str (sg q.1) q.2) (sv.map fun q => PyData.str (svOne q)) := by
  have := (sv_strs sv).carried
  rwa [List.map_map] at this
end
section
open PySem PySem.W PyProof.Rows PySem.Calls PyProof.V PySem.Spec PyProof.Rows.LCg PyProof.Rows.LCt
local macro_rules | `(tactic| walk_at "call ref") => `(tactic| (refine Hold.out ?_))
local macro_rules | `(tactic| walk_at "CompSrc") => `(tactic| (refine Hold.out ?_))
-- TLawD
section
open PySem PySem.W PyProof.Rows PySem.Calls PyProof.V PySem.Spec PyProof.Rows.LCg PyProof.Rows.LCt
theorem rg_small {r : Int} (r0 : 0 ≤ r) (r1 : r < 10) : Builtin.Range.small 0 r 1 = true := small_one (by decide) (by decide) (by omega) (by omega)
theorem rg_n {r : Int} (r0 : 0 ≤ r) : Builtin.Range.rangeSize 0 r 1 = r.toNat := by unfold Builtin.Range.rangeSize; simp; split <;> omega
theorem rg_sz {r : Int} (r1 : r < 10) : r.toNat ≤ sizeLine := by rw [sizeLine_eq]; omega
theorem rg_a {r : Int} {n : Nat} (h : n = r.toNat) (r1 : r < 10) : n ≤ 1048576 := by omega
theorem rg_b {r : Int} {k n : Nat} (e : k = n) (h : n = r.toNat) (r1 : r < 10) : k ≤ 9 := by omega
theorem rg_c {n : Nat} (h : n = 10) : 0 < n ∧ n ≤ 100 := by omega
def TextIv (l a L : Addr) (vs : List Value) (o3 o4 : Obj) (i : Nat) (ys : List Value) (news : List (Addr × Obj)) : Prop :=
  ∃ (x y : Int) (tx ty n : Nat) (sv : List (Nat × Tok)), SrcOk x y ∧ ys = sv.map (fun q => Value.str (sg q.1) q.2) ∧ sv.length = i ∧ (∀ q ∈ sv, q.1 ∈ codes) ∧ news = [(l, listOf vs.toArray 0), (a, src x y tx ty n), (L + 1 + 1, o4), (L + 1, o3)]
set_option maxHeartbeats 4000000 in
theorem law_text {w : World} {dp un : Nat} {gd : Option (List Code)} {outer : List Env} {A₀ : Around} {base g : Heap} {L fa a l : Addr} {cdv : Value} {o3 o4 : Obj} {m : Str → Option Value} {s : Shared} {vs : List Value} {x y : Int} {tx ty n : Nat} {Q : Flow → Shared → Prop} {E : Value → Shared → Prop} {mg mb : Str → Option Value} {mean : ExcName → Option Value}
    (B : Below A₀ base outer g) (X : (Mine.hd.heap_39 w.params).In g) (T : Top Mine.hd.view_39 (looseW Mine.hd.view_39 []) mean mg mb g) (F : Fr g L s.heap m) (N : News g L s.heap [(l, listOf vs.toArray 0), (a, src x y tx ty n), (L + 1 + 1, o4), (L + 1, o3)]) (d4 : o4.data = .cell (some (.ref l))) (d3 : o3.data = .cell (some (.ref a)))
    (hs : SrcOk x y) (hvs : ∀ v ∈ vs, CodeV v) (hlen : vs.length = 10) (ne1 : @Ne Nat a (L + 1 + 1)) (ne2 : @Ne Nat a (L + 1)) (ne3 : @Ne Nat l (L + 1 + 1)) (ne4 : @Ne Nat l (L + 1)) (ne5 : @Ne Nat l a)
    (hd : dp + 60 < recursionLimit) (hu : un + 8 * 60 < cLine)
    (kk : ∀ h' tk' k t x y tx ty n, SrcOk x y → k.length ≤ 9 → (∀ c ∈ k.cps.toList, c ∈ codes) → Fr g L h' (fun z => if z = Str.ofString "text" then some (.str k t) else m z) → News g L h' [(l, listOf vs.toArray 0), (a, src x y tx ty n), (L + 1 + 1, o4), (L + 1, o3)] → Q .next { s with heap := h', toks := tk' }) :
    wpAny (model PySem.Challenge.rw_xm0631_01.row.prog w) ({ handled := none, depth := dp, frames := some (envOfC "law" lawScope L fa cdv :: outer), guards := gd, units := un } : Around) (exec (lawAt 3) (envOfC "law" lawScope L fa cdv)) Q E s := by
  revert X; k_fill; intro X
  have KM := kstMark
  with_unfolding_all show wpAny _ _ (exec (Stmt.Assign _ _ _) _) _ _ _
  (try k_fold)
  k_steps
  refine Hold.mk ?_
  with_unfolding_all refine ListComp_U F rfl (by decide) rfl (by decide) rfl ?_
  k_steps
  refine Hold.mk ?_
  (with_unfolding_all refine' take_use hs ?h0 ?h1 ?B ?F ?X ?T ?N ?hf ?hke ?U ?hdp ?hun ?_; (case N => k_asm); (case h0 => decide); (case h1 => decide); (case U => exact .tail ne5 (.head (List.forall_mem_cons.mpr ⟨Ne.symm ne1, List.forall_mem_cons.mpr ⟨Ne.symm ne2, List.forall_mem_nil _⟩⟩))); (case B => k_asm); (case F => k_asm); (case X => k_asm); (case T => k_asm); (case hf => rfl); (case hke => rfl); (case hdp => ktr_room); (case hun => ktr_units))
  intro h1 tk1 r t1 x1 y1 tx1 ty1 n1 F1 N1 hs1 r0 r1
  clear F N
  (try dsimp only at N1)
  k_steps
  refine Hold.mk ?_
  (rename Fr _ _ _ _ => F9); (rename News _ _ _ _ => N9); (rename IsRange _ _ _ _ _ _ _ _ => R9)
  have hIv : ∀ i ys news, TextIv l a L vs o3 o4 i ys news → True := fun _ _ _ _ => trivial
  with_unfolding_all refine CompSrc.range (n := r.toNat) rfl F9 N9 R9 (rg_small r0 r1) ?hn ?hsz fun g' => rest_inv (n := r.toNat) (TextIv l a L vs o3 o4) hIv ?he ?hfin _ _ _ _ ?hj ⟨x1, y1, tx1, ty1, n1, [], hs1, rfl, rfl, (fun _ h => by cases h), rfl⟩
  case hj => simp
  case hsz => exact rg_sz r1
  case hn => exact rg_n r0
  case he =>
    intro i v ys news I oI C oC D m₂ h tk E' Q' hi hI hP hC hx F' N' off ne kk'
    obtain ⟨x2, y2, tx2, ty2, n2, sv, hs2, rfl, hsv, hcd, rfl⟩ := hI
    clear F9 N9
    obtain ⟨⟨q1, q2, q3⟩, ⟨q4, q5, q6⟩, ⟨q7, q8, q9⟩, ⟨q10, q11, q12⟩, _⟩ := off
    dsimp only at q1 q2 q3 q4 q5 q6 q7 q8 q9 q10 q11 q12
    obtain ⟨q13, q14, q15⟩ := ne
    k_steps
    refine Hold.mk ?_
    (with_unfolding_all refine' one_use CodeV hvs hs2 ?h0 ?h1 ?B ?F ?X ?T ?N ?hf ?hke ?U ?hlt ne5 ?hdp ?hun ?_; (case N => k_asm); (case hlt => k_mem); (case h0 => exact (rg_c hlen).1); (case h1 => exact (rg_c hlen).2); (case U => exact .tail (Ne.symm q4) (.tail (Ne.symm q5) (.tail (Ne.symm q6) (.tail ne5 (.head (List.forall_mem_cons.mpr ⟨Ne.symm ne1, List.forall_mem_cons.mpr ⟨Ne.symm ne2, List.forall_mem_nil _⟩⟩)))))); (case B => k_asm); (case F => k_asm); (case X => k_asm); (case T => k_asm); (case hf => rfl); (case hke => rfl); (case hdp => ktr_room); (case hun => ktr_units))
    intro h5 tk5 v5 x5 y5 tx5 ty5 n5 F5 N5 hs5 hv5
    (try dsimp only at N5)
    obtain ⟨c5, t5, rfl, hc5⟩ := hv5
    refine kk' _ h5 tk5 [(l, listOf vs.toArray 0), (a, src x5 y5 tx5 ty5 n5), (L + 1 + 1, o4), (L + 1, o3)] ⟨x5, y5, tx5, ty5, n5, sv ++ [(c5, t5)], hs5, by rw [List.map_append]; rfl, by rw [List.length_append, hsv]; rfl, fun q hq => ?_, rfl⟩ ?_ F5 N5
    · rcases List.mem_append.mp hq with hq | hq
      · exact hcd q hq
      · rw [List.mem_singleton.mp hq]; exact hc5
    · exact List.forall_mem_cons.mpr ⟨⟨_, .head _, rfl⟩, List.forall_mem_cons.mpr ⟨⟨_, .tail _ (.head _), rfl⟩, List.forall_mem_cons.mpr ⟨⟨_, .tail _ (.tail _ (.head _)), rfl⟩, List.forall_mem_cons.mpr ⟨⟨_, .tail _ (.tail _ (.tail _ (.head _))), rfl⟩, List.forall_mem_nil _⟩⟩⟩⟩
  case hfin =>
    intro ys news hI
    obtain ⟨x2, y2, tx2, ty2, n2, sv, hs2, rfl, hsv, hcd, rfl⟩ := hI
    intro D h' tk' F' N' off
    clear F9 N9
    k_steps
    (with_unfolding_all refine KT.join_1 (l := sv) (g := svOne) (N'.isList (.head _)) (sv_carried sv) (fun _ _ => rfl) (rg_a hsv r1) ?_)
    intro t9 k9 e9
    have c9 := join_codes sv
    generalize Txt.join (Str.ofString "") (sv.map svOne) = kx at e9 c9 ⊢
    k_steps
    (rename Fr _ _ _ _ => F9); (rename News _ _ _ _ => N9)
    refine kk _ _ kx t9 x2 y2 tx2 ty2 n2 hs2 (rg_b e9 hsv r1) (fun c hc => ?_) F9 (news_sub N9 fun p hp => .tail _ hp)
    rw [c9] at hc
    obtain ⟨q, hq, rfl⟩ := List.mem_map.mp hc
    exact hcd q hq
end
-- TLawE
section
open PySem PySem.W PyProof.Rows PySem.Calls PyProof.V PySem.Spec PyProof.Rows.LCg PyProof.Rows.LCt
local macro_rules | `(tactic| walk_at "idle") => `(tactic| skip)
theorem pl_1 {r : Int} (r0 : 0 ≤ r) (r1 : r < 3) : 0 ≤ 1 + r ∧ 1 + r ≤ 100 := by omega
theorem pl_3 {r : Int} (r0 : 0 ≤ r) (r1 : r < 4) : 0 ≤ 3 + r ∧ 3 + r ≤ 100 := by omega
theorem news_drop2 {h₀ h : Heap} {L : Addr} {p q : Addr × Obj} {r : List (Addr × Obj)} (N : News h₀ L h (p :: q :: r)) : News h₀ L h (p :: r) := fun z hz => by
  rcases List.mem_cons.mp hz with rfl | hz
  · exact N _ (.head _)
  · exact N _ (.tail _ (.tail _ hz))
set_option maxHeartbeats 4000000 in
theorem law_places {w : World} {dp un : Nat} {gd : Option (List Code)} {outer : List Env} {A₀ : Around} {base g : Heap} {L fa a l : Addr} {cdv : Value} {o3 o4 : Obj} {m : Str → Option Value} {s : Shared} {vs : List Value} {x y : Int} {tx ty n : Nat} {Q : Flow → Shared → Prop} {E : Value → Shared → Prop} {mg mb : Str → Option Value} {mean : ExcName → Option Value}
    (B : Below A₀ base outer g) (X : (Mine.hd.heap_39 w.params).In g) (T : Top Mine.hd.view_39 (looseW Mine.hd.view_39 []) mean mg mb g) (F : Fr g L s.heap m) (N : News g L s.heap [(l, listOf vs.toArray 0), (a, src x y tx ty n), (L + 1 + 1, o4), (L + 1, o3)]) (d4 : o4.data = .cell (some (.ref l))) (d3 : o3.data = .cell (some (.ref a)))
    (hs : SrcOk x y) (ne1 : @Ne Nat a (L + 1 + 1)) (ne2 : @Ne Nat a (L + 1)) (ne3 : @Ne Nat l (L + 1 + 1)) (ne4 : @Ne Nat l (L + 1)) (ne5 : @Ne Nat l a)
    (hd : dp + 60 < recursionLimit) (hu : un + 8 * 60 < cLine)
    (kk : ∀ h' tk' pl p q r tp tq tr np x y tx ty n, SrcOk x y → 0 ≤ p → p ≤ 100 → 0 ≤ q → q ≤ 100 → 0 ≤ r → r ≤ 100 → (@Ne Nat pl a) → (@Ne Nat pl (L + 1 + 1)) → (@Ne Nat pl (L + 1)) → Fr g L h' (fun z => if z = Str.ofString "places" then some (.ref pl) else m z) → News g L h' [(pl, listOf [.int p tp, .int q tq, .int r tr].toArray np), (a, src x y tx ty n), (L + 1 + 1, o4), (L + 1, o3)] → Q .next { s with heap := h', toks := tk' }) :
    wpAny (model PySem.Challenge.rw_xm0631_01.row.prog w) ({ handled := none, depth := dp, frames := some (envOfC "law" lawScope L fa cdv :: outer), guards := gd, units := un } : Around) (exec (lawAt 4) (envOfC "law" lawScope L fa cdv)) Q E s := by
  revert X; k_fill; intro X
  have KM := kstMark
  with_unfolding_all show wpAny _ _ (exec (Stmt.Assign _ _ _) _) _ _ _
  (try k_fold)
  k_steps
  refine Hold.mk ?_
  (with_unfolding_all refine' take_use hs ?h0 ?h1 ?B ?F ?X ?T ?N ?hf ?hke ?U ?hdp ?hun ?_; (case N => k_asm); (case h0 => decide); (case h1 => decide); (case U => exact .tail ne5 (.head (List.forall_mem_cons.mpr ⟨Ne.symm ne1, List.forall_mem_cons.mpr ⟨Ne.symm ne2, List.forall_mem_nil _⟩⟩))); (case B => k_asm); (case F => k_asm); (case X => k_asm); (case T => k_asm); (case hf => rfl); (case hke => rfl); (case hdp => ktr_room); (case hun => ktr_units))
  intro h1 tk1 r t1 x1 y1 tx1 ty1 n1 F1 N1 hs1 r0 r1
  clear F N
  (try dsimp only at N1)
  k_steps
  refine Hold.mk ?_
  (with_unfolding_all refine' take_use hs1 ?h0 ?h1 ?B ?F ?X ?T ?N ?hf ?hke ?U ?hdp ?hun ?_; (case N => k_asm); (case h0 => decide); (case h1 => decide); (case U => exact .tail ne5 (.head (List.forall_mem_cons.mpr ⟨Ne.symm ne1, List.forall_mem_cons.mpr ⟨Ne.symm ne2, List.forall_mem_nil _⟩⟩))); (case B => k_asm); (case F => k_asm); (case X => k_asm); (case T => k_asm); (case hf => rfl); (case hke => rfl); (case hdp => ktr_room); (case hun => ktr_units))
  intro h2 tk2 r2 t2 x2 y2 tx2 ty2 n2 F2 N2 hs2 r3 r4
  clear F1 N1
  (try dsimp only at N2)
  k_steps
  rename_i pl9 _ l1 h9 F9 N9
  obtain ⟨_, la, lb, lc⟩ := l1
  exact kk _ _ pl9 _ _ _ _ _ _ _ x2 y2 tx2 ty2 n2 hs2 (Int.le_refl 0) (by decide) (pl_1 r0 r1).1 (pl_1 r0 r1).2 (pl_3 r3 r4).1 (pl_3 r3 r4).2 (Ne.symm (Nat.ne_of_lt la)) (Ne.symm (Nat.ne_of_lt lb)) (Ne.symm (Nat.ne_of_lt lc)) F9 (news_drop2 N9)
end
-- TLawF
section
open PySem PySem.W PyProof.Rows PySem.Calls PyProof.V PySem.Spec PyProof.Rows.LCg PyProof.Rows.LCt
set_option maxHeartbeats 4000000 in
theorem law_ret {w : World} {dp un : Nat} {gd : Option (List Code)} {outer : List Env} {A₀ : Around} {base g : Heap} {L fa a pl : Addr} {cdv : Value} {o3 o4 : Obj} {m : Str → Option Value} {s : Shared} {kx : Str} {p q r : Int} {t tp tq tr np : Nat} {x y : Int} {tx ty n : Nat} {Q : Flow → Shared → Prop} {E : Value → Shared → Prop} {mg mb : Str → Option Value} {mean : ExcName → Option Value}
    (B : Below A₀ base outer g) (X : (Mine.hd.heap_39 w.params).In g) (T : Top Mine.hd.view_39 (looseW Mine.hd.view_39 []) mean mg mb g) (F : Fr g L s.heap m) (N : News g L s.heap [(pl, listOf [.int p tp, .int q tq, .int r tr].toArray np), (a, src x y tx ty n), (L + 1 + 1, o4), (L + 1, o3)]) (d3 : o3.data = .cell (some (.ref a)))
    (h1 : m "text" = some (.str kx t)) (h2 : m "places" = some (.ref pl)) (hk : kx.length ≤ 9) (hc : ∀ c ∈ kx.cps.toList, c ∈ codes)
    (hs : SrcOk x y) (p0 : 0 ≤ p) (p1 : p ≤ 100) (q0 : 0 ≤ q) (q1 : q ≤ 100) (r0 : 0 ≤ r) (r1 : r ≤ 100) (ne1 : @Ne Nat a (L + 1 + 1)) (ne2 : @Ne Nat a (L + 1)) (ne3 : @Ne Nat pl a) (ne4 : @Ne Nat pl (L + 1 + 1)) (ne5 : @Ne Nat pl (L + 1))
    (hd : dp + 60 < recursionLimit) (hu : un + 8 * 60 < cLine)
    (kk : ∀ h' tk', Fr g L h' m → Q (.ret (.bool true)) { s with heap := h', toks := tk' }) :
    wpAny (model PySem.Challenge.rw_xm0631_01.row.prog w) ({ handled := none, depth := dp, frames := some (envOfC "law" lawScope L fa cdv :: outer), guards := gd, units := un } : Around) (exec (lawAt 5) (envOfC "law" lawScope L fa cdv)) Q E s := by
  revert X; k_fill; intro X
  have KM := kstMark
  with_unfolding_all show wpAny _ _ (exec (Stmt.Return _ _) _) _ _ _
  (try k_fold)
  k_steps
  refine Hold.mk ?_
  (with_unfolding_all refine' use_spec (numbers_spec w a x y tx ty n hs) [(pl, listOf [.int p tp, .int q tq, .int r tr].toArray np), (L + 1 + 1, o4), (L + 1, o3)] ?B ?F ?X ?T ?N ?hf ?hke ?ht ?hr ?hdj (fun _ _ _ => trivial) ?hdp ?hun ?_; (case B => k_asm); (case F => k_asm); (case X => k_asm); (case T => k_asm); (case N => k_asm); (case hf => rfl); (case hke => rfl); (case hdp => ktr_room); (case hun => ktr_units))
  case ht => exact List.forall_mem_cons.mpr ⟨.tail _ (.head _), List.forall_mem_nil _⟩
  case hr => exact List.forall_mem_cons.mpr ⟨.head _, List.forall_mem_cons.mpr ⟨.tail _ (.tail _ (.head _)), List.forall_mem_cons.mpr ⟨.tail _ (.tail _ (.tail _ (.head _))), List.forall_mem_nil _⟩⟩⟩
  case hdj => exact List.forall_mem_cons.mpr ⟨List.forall_mem_cons.mpr ⟨ne3, List.forall_mem_nil _⟩, List.forall_mem_cons.mpr ⟨List.forall_mem_cons.mpr ⟨Ne.symm ne1, List.forall_mem_nil _⟩, List.forall_mem_cons.mpr ⟨List.forall_mem_cons.mpr ⟨Ne.symm ne2, List.forall_mem_nil _⟩, List.forall_mem_nil _⟩⟩⟩
  rintro g1 hh1 tk1 v1 F1 N1 hfr rfl
  clear F N
  k_steps
  refine Hold.mk ?_
  (with_unfolding_all refine' use_spec (format_spec w kx t pl p q r tp tq tr np hk (fine_codes hc) hc p0 p1 q0 q1 r0 r1) [(L + 1 + 1, o4), (L + 1, o3)] ?B ?F ?X ?T ?N ?hf ?hke ?ht ?hr ?hdj (fun _ _ _ => trivial) ?hdp ?hun ?_; (case B => k_asm); (case F => k_asm); (case X => k_asm); (case T => k_asm); (case N => k_asm); (case hf => rfl); (case hke => rfl); (case hdp => ktr_room); (case hun => ktr_units))
  case ht => exact List.forall_mem_cons.mpr ⟨.head _, List.forall_mem_nil _⟩
  case hr => exact List.forall_mem_cons.mpr ⟨.tail _ (.head _), List.forall_mem_cons.mpr ⟨.tail _ (.tail _ (.head _)), List.forall_mem_nil _⟩⟩
  case hdj => exact List.forall_mem_cons.mpr ⟨List.forall_mem_cons.mpr ⟨Ne.symm ne4, List.forall_mem_nil _⟩, List.forall_mem_cons.mpr ⟨List.forall_mem_cons.mpr ⟨Ne.symm ne5, List.forall_mem_nil _⟩, List.forall_mem_nil _⟩⟩
  rintro g2 hh2 tk2 v2 F2 N2 hfr2 rfl
  clear F1 N1
  k_steps
  (rename Fr _ _ _ _ => F9)
  first | exact kk _ _ F9
end
-- TLawG
section
open PySem PySem.W PyProof.Rows PySem.Calls PyProof.V PySem.Spec PyProof.Rows.LCg PyProof.Rows.LCt
set_option maxHeartbeats 4000000 in
theorem law_body {w : World} {dp un : Nat} {gd : Option (List Code)} {outer : List Env} {A₀ : Around} {base g : Heap} {L fa ls : Addr} {cdv : Value} {o1 o2 : Obj} {m : Str → Option Value} {s : Shared} {vs : List Value} {ns : List Int} {Q : Flow → Shared → Prop} {E : Value → Shared → Prop} {mg mb : Str → Option Value} {mean : ExcName → Option Value}
    (B : Below A₀ base outer g) (X : (Mine.hd.heap_39 w.params).In g) (T : Top Mine.hd.view_39 (looseW Mine.hd.view_39 []) mean mg mb g) (F : Fr g L s.heap m) (N : News g L s.heap [(L + 1 + 1, o1), (L + 1, o2)]) (d1 : o1.data = .cell none) (d2 : o2.data = .cell none) (h1 : m (Str.ofString "script") = some (.ref ls)) (hl : g.IsList ls vs.toArray) (hi : IntsAre vs ns) (hlen : ns.length ≤ 63)
    (hd : dp + 60 < recursionLimit) (hu : un + 8 * 60 < cLine)
    (kk : ∀ h' tk' m', Fr g L h' m' → Q (.ret (.bool true)) { s with heap := h', toks := tk' }) :
    wpAny (model PySem.Challenge.rw_xm0631_01.row.prog w) ({ handled := none, depth := dp, frames := some (envOfC "law" lawScope L fa cdv :: outer), guards := gd, units := un } : Around) (execs [lawAt 0, lawAt 1, lawAt 2, lawAt 3, lawAt 4, lawAt 5] (envOfC "law" lawScope L fa cdv)) Q E s := by
  refine wpAny_execs_cons ?_
  with_reducible refine law_if1 B X T F N hd hu ?_
  intro h2 tk2 F2 N2
  (try dsimp only)
  clear F N
  refine wpAny_execs_cons ?_
  with_reducible refine law_src (s := { s with heap := h2, toks := tk2 }) B X T F2 N2 d1 d2 h1 hl hi hlen hd hu ?_
  intro h3 tk3 a x y tx ty n o3 hs ne1 ne2 F3 N3 d3
  (try dsimp only)
  clear F2 N2
  refine wpAny_execs_cons ?_
  with_reducible refine law_signs (s := { s with heap := h3, toks := tk3 }) X F3 N3 d1 d3 ne1 ne2 ?_
  intro h4 tk4 l vs4 o4 hvs hl4 ne3 ne4 ne5 F4 N4 d4
  (try dsimp only)
  clear F3 N3
  refine wpAny_execs_cons ?_
  with_reducible refine law_text (s := { s with heap := h4, toks := tk4 }) B X T F4 N4 d4 d3 hs hvs hl4 ne1 ne2 ne3 ne4 ne5 hd hu ?_
  intro h5 tk5 kx t5 x5 y5 tx5 ty5 n5 hs5 hk5 hc5 F5 N5
  (try dsimp only)
  clear F4 N4
  refine wpAny_execs_cons ?_
  with_reducible refine law_places (s := { s with heap := h5, toks := tk5 }) B X T F5 N5 d4 d3 hs5 ne1 ne2 ne3 ne4 ne5 hd hu ?_
  intro h6 tk6 pl p q r tp tq tr np x6 y6 tx6 ty6 n6 hs6 p0 p1 q0 q1 r0 r1 nea neb nec F6 N6
  (try dsimp only)
  clear F5 N5
  refine wpAny_execs_cons ?_
  refine law_ret (s := { s with heap := h6, toks := tk6 }) B X T F6 N6 d3 rfl rfl hk5 hc5 hs6 p0 p1 q0 q1 r0 r1 ne1 ne2 nea neb nec hd hu ?_
  intro h7 tk7 F7
  (try dsimp only)
  exact kk h7 tk7 _ F7
end
end
-- TLaw
section
open PySem PySem.W PyProof.Rows PySem.Calls PyProof.V PySem.Spec PyProof.Rows.LCg PyProof.Rows.LCt
local macro_rules | `(tactic| walk_at "idle") => `(tactic| skip)
local macro_rules | `(tactic| walk_at "call ref") => `(tactic| (refine Hold.out ?_))
local macro_rules | `(tactic| walk_at "exec If") => `(tactic| (refine Hold.out ?_))
set_option maxHeartbeats 8000000 in
theorem law_try : PySem.Challenge.rw_xm0631_01.Holds := Mine.hd (by
  w_strict (k_go0; (all_goals try k_fold); (all_goals dsimp only); (with_unfolding_all refine' law_body ?B ?X ?T ?F ?N ?d1 ?d2 ?h1 ?hl ?hi ?hlen ?hd ?hu ?_); (case B => k_asm); (case X => k_asm); (case T => k_asm); (case F => k_asm); (case N => k_asm); (case d1 => assumption); (case d2 => assumption); (case h1 => rfl); (case hl => assumption); (case hi => assumption); (case hlen => omega); (case hd => ktr_room); (case hu => ktr_units); (intro h8 tk8 m8 F8); (try dsimp only); k_steps))
end
end
end
end
end
end Mine
theorem PySem.Challenge.cw_xm0631_01_holds : PySem.Challenge.rw_xm0631_01.Holds := by
  exact Mine.law_try
