import PyProof.Rows.All
import Wide.All
import OpenK.AllK
import Wide.FinOn
import PySem.Challenge.RW_nn0292_01
namespace Mine
local macro_rules | `(tactic| walk_at $s:str) => `(tactic| k_extra $s)
open PySem PySem.W PyProof.Rows
set_option Elab.async false
set_option maxRecDepth 100000
set_option maxHeartbeats 8000000
section
open_top hd for PySem.Challenge.rw_nn0292_01
end
open PySem PySem.W PySem.Calls PyProof.Rows
set_option Elab.async false
set_option maxRecDepth 100000
set_option maxHeartbeats 8000000
section
abbrev Ar (dp un : Nat) (fr : Option (List Env)) (gd : Option (List Code)) : Around := { handled := none, depth := dp, frames := fr, guards := gd, units := un }

structure Ret (s : Shared) (muts : List Addr) (s' : Shared) : Prop where
  eq : ∃ h' tk, s' = { s with heap := h', toks := tk }
  keep : ∀ b o, s.heap.get? b = some o → b ∉ muts → s'.heap.get? b = some o

theorem Ret.fr {s s' : Shared} {muts : List Addr} {h₀ : Heap} {L : Addr} {m : Str → Option Value} (R : Ret s muts s') (F : Fr h₀ L s.heap m)
    (hm : ∀ a ∈ muts, h₀.get? a = none ∧ a ≠ L) : Fr h₀ L s'.heap m := by
  obtain ⟨oL, es, ep, hL, r⟩ := F.ns
  refine ⟨⟨oL, es, ep, R.keep _ _ hL fun q => (hm _ q).2 rfl, r⟩, fun b o e => R.keep b o (F.keep b o e) fun q => ?_, F.above⟩
  have := (hm b q).1; rw [e] at this; cases this

theorem Ret.news {s s' : Shared} {muts : List Addr} {h₀ : Heap} {L : Addr} {news : List (Addr × Obj)} (R : Ret s muts s') (N : News h₀ L s.heap news)
    (hm : ∀ p ∈ news, p.1 ∉ muts) : News h₀ L s'.heap news := fun p hp => ⟨R.keep _ _ (N p hp).1 (hm p hp), (N p hp).2⟩

/-- a def of the text is entered: the ledger's objects may turn, all else stays -/
theorem enter {prog : Program} {w : World} {A : Around} {s : Shared} {h₀ : Heap} {p : Program} {loose : List Str} {mean : ExcName → Option Value} {mg mb : Str → Option Value} {K : Frag}
    {name qual : Str} {params : Arguments} {body : List Stmt} {scope : Scope} {dV kV doc pm cdv ct oc : Value} {an od : Option Addr} {osl : Array (Option Value)} {f : Addr} {vs : List Value}
    {Q E : Value → Shared → Prop} (muts : List (Addr × Obj)) (binds : List (Str × Value))
    (hk₀ : ∀ b o, h₀.get? b = some o → s.heap.get? b = some o) (X₀ : K.In h₀) (T : Top p loose mean mg mb h₀)
    (hm : ∀ q ∈ muts, s.heap.get? q.1 = some q.2 ∧ h₀.get? q.1 = none)
    (ho : K.lookup f = some ⟨oc, od, .func (fnOf name qual params body scope dV kV doc pm an cdv ct), osl⟩) (hcd : codeIn K cdv qual = true) (hroom : A.depth < recursionLimit)
    (hbind : BindsTo s (fnOf name qual params body scope dV kV doc pm an cdv ct) ⟨vs, []⟩ binds) (hloc : ∀ y ∈ binds, scope.names.lookup y.1 = some .local)
    (h : ∀ g L' h₁ tk, (∀ b o, s.heap.get? b = some o → b ∉ muts.map (·.1) → g.get? b = some o) → Fr g L' h₁ (fun y => binds.reverse.lookup y) → News g L' h₁ muts → K.In g → Top p loose mean mg mb g →
      wpAny (model prog w) (A.deeper (envOf qual scope L' f cdv)) (execs body (envOf qual scope L' f cdv))
        (fun fl s' => Q (match fl with | .ret v => v | _ => .none) s') (fun _ _ => False)
        { s with heap := h₁, toks := tk })
    (hco : scope.isCoroutine = false := by rfl) (hgen : scope.isGenerator = false := by rfl) (hk : scope.kind = .function := by rfl)
    (hcell : ∀ x ∈ scope.names, x.2 ≠ .cell := by decide) : wpAny (model prog w) A (call (.ref f) vs) Q E s := by
  have nm : ∀ b o, h₀.get? b = some o → b ∉ muts.map (·.1) := fun b o e q => by
    obtain ⟨p, hp, rfl⟩ := List.mem_map.mp q
    rw [(hm p hp).2] at e; cases e
  have st : ∀ b o, h₀.get? b = some o → (hideAll s.heap (muts.map (·.1))).get? b = some o := fun b o e => hideAll_get _ (hk₀ b o e) (nm b o e)
  refine wpAny_call (codeAny_call_def (fd := fnOf name qual params body scope dV kV doc pm an cdv ct) (body := body) (binds := binds) hroom (hk₀ _ _ (X₀ _ _ ho)) rfl (T.nolimit.keeps hk₀) (codeRec_of (X₀.keeps hk₀) hcd) rfl hbind hcell hloc (fun h₁ hns hk₁ => ?_) hco hgen hk)
  refine wpAny_mono (h (hideAll s.heap (muts.map (·.1))) s.heap.objs.size h₁ _ (fun b o e n => hideAll_get _ e n) ⟨hns, fun b o e => hk₁ b o (of_hideAll _ e), Nat.le_of_eq (hideAll_size _ _)⟩
    (fun p hp => ⟨hk₁ _ _ (hm p hp).1, Nat.ne_of_lt (Heap.lt_size (hm p hp).1), hideAll_none _ (List.mem_map_of_mem hp)⟩) (X₀.keeps st) (T.keeps st)) (fun _ _ x => x) (fun _ _ x => x.elim)

/-- the same for a def some of whose names are cells -/
theorem enterC {prog : Program} {w : World} {A : Around} {s : Shared} {h₀ : Heap} {p : Program} {loose : List Str} {mean : ExcName → Option Value} {mg mb : Str → Option Value} {K : Frag}
    {name qual : Str} {params : Arguments} {body : List Stmt} {scope : Scope} {dV kV doc pm cdv ct oc : Value} {an od : Option Addr} {osl : Array (Option Value)} {f : Addr} {vs : List Value}
    {Q E : Value → Shared → Prop} (muts : List (Addr × Obj)) (binds : List (Str × Value))
    (hk₀ : ∀ b o, h₀.get? b = some o → s.heap.get? b = some o) (X₀ : K.In h₀) (T : Top p loose mean mg mb h₀)
    (hm : ∀ q ∈ muts, s.heap.get? q.1 = some q.2 ∧ h₀.get? q.1 = none)
    (ho : K.lookup f = some ⟨oc, od, .func (fnOf name qual params body scope dV kV doc pm an cdv ct), osl⟩) (hcd : codeIn K cdv qual = true) (hroom : A.depth < recursionLimit)
    (hbind : BindsTo s (fnOf name qual params body scope dV kV doc pm an cdv ct) ⟨vs, []⟩ binds)
    (hkind : (binds.all fun y => scope.names.lookup y.1 == some .local || scope.names.lookup y.1 == some .cell) = true)
    (hnd : ((cellsFrom 0 scope.names []).map (·.1)).Nodup)
    (h : ∀ g L' h₁ tk cells, (∀ b o, s.heap.get? b = some o → b ∉ muts.map (·.1) → g.get? b = some o) → Fr g L' h₁ (bindL (envOfC qual scope L' f cdv).kindOf binds fun _ => none) → News g L' h₁ (cells ++ muts) →
      CellsAre (bindC (envOfC qual scope L' f cdv).kindOf binds fun _ => none) (cellsFrom (L' + 1) scope.names []) cells → K.In g → Top p loose mean mg mb g → (∀ q ∈ muts, q.1 < L') →
      wpAny (model prog w) (A.deeper (envOfC qual scope L' f cdv)) (execs body (envOfC qual scope L' f cdv))
        (fun fl s' => Q (match fl with | .ret v => v | _ => .none) s') (fun _ _ => False)
        { s with heap := h₁, toks := tk })
    (hco : scope.isCoroutine = false := by rfl) (hgen : scope.isGenerator = false := by rfl) (hk : scope.kind = .function := by rfl) : wpAny (model prog w) A (call (.ref f) vs) Q E s := by
  have nm : ∀ b o, h₀.get? b = some o → b ∉ muts.map (·.1) := fun b o e q => by
    obtain ⟨p, hp, rfl⟩ := List.mem_map.mp q
    rw [(hm p hp).2] at e; cases e
  have st : ∀ b o, h₀.get? b = some o → (hideAll s.heap (muts.map (·.1))).get? b = some o := fun b o e => hideAll_get _ (hk₀ b o e) (nm b o e)
  refine wpAny_call (codeAny_call_function hroom (hk₀ _ _ (X₀ _ _ ho)) rfl hco hgen rfl (codeRec_of (X₀.keeps hk₀) hcd) (hbind _ _ _ _ ?_))
  refine wpAny_newFunctionEnv_cells hk (kindsX hkind _) fun env' he s' x => ?_
  subst he
  refine ⟨(T.nolimit.keeps hk₀).keeps x.toInCall.keep, codeAny_func ?_⟩
  obtain ⟨h₁, tk, rfl, _⟩ := x.done
  have hk₁ := x.toInCall.keep
  obtain ⟨cells, NC, Y⟩ := Cl.news (h₀ := s.heap) (Nat.le_refl _) fun n c hm => ⟨x.cell n c (lookup_of_mem_nodup (cellsFrom_names scope.names 0 (s.heap.objs.size + 1) [] [] rfl ▸ hnd) hm), x.above n c hm⟩
  refine wpAny_mono (h (hideAll s.heap (muts.map (·.1))) s.heap.objs.size h₁ tk cells (fun b o e n => hideAll_get _ e n) ⟨x.toInCall.ns, fun b o e => hk₁ b o (of_hideAll _ e), Nat.le_of_eq (hideAll_size _ _)⟩ (fun p hp => ?_) Y (X₀.keeps st) (T.keeps st) (fun q hq => Heap.lt_size (hm q hq).1)) (fun _ _ x => x) fun _ _ y => y.elim
  rcases List.mem_append.mp hp with hp | hp
  · refine ⟨(NC p hp).1, (NC p hp).2.1, ?_⟩
    cases q : (hideAll s.heap (muts.map (·.1))).get? p.1 with
    | none => rfl
    | some o => have := of_hideAll _ q; rw [(NC p hp).2.2] at this; cases this
  · exact ⟨hk₁ _ _ (hm p hp).1, Nat.ne_of_lt (Heap.lt_size (hm p hp).1), hideAll_none _ (List.mem_map_of_mem hp)⟩

/-- what the callee's end says to the caller -/
theorem back {s : Shared} {g h' : Heap} {L' : Addr} {m' : Str → Option Value} {tk : Nat} {muts : List Addr}
    (G : ∀ b o, s.heap.get? b = some o → b ∉ muts → g.get? b = some o) (F : Fr g L' h' m') : Ret s muts { s with heap := h', toks := tk } :=
  ⟨⟨_, _, rfl⟩, fun b o e n => F.keep b o (G b o e n)⟩

theorem Ret.upd {s : Shared} {h₀ h' : Heap} {L d : Addr} {m : Str → Option Value} {news : List (Addr × Obj)} {o o' : Obj} {gU : Obj → List (Addr × Obj)} {tk : Nat}
    (R : Ret s [d] { s with heap := h', toks := tk }) (ho : h'.get? d = some o') (F : Fr h₀ L s.heap m) (N : News h₀ L s.heap news) (U : UpdF d o news gU) :
    Fr h₀ L h' m ∧ News h₀ L h' (gU o') := by
  obtain ⟨pre, post, rfl, hg, h1, h2⟩ := U.split
  have hd := N (d, o) (List.mem_append_right _ (.head _))
  refine ⟨R.fr F fun a ha => by rw [List.mem_singleton.mp ha]; exact ⟨hd.2.2, hd.2.1⟩, ?_⟩
  rw [hg o']
  intro q hq
  rcases List.mem_append.mp hq with hq | hq
  · have := N q (List.mem_append_left _ hq)
    exact ⟨R.keep _ _ this.1 fun e => h1 q hq (List.mem_singleton.mp e), this.2⟩
  · rcases List.mem_cons.mp hq with rfl | hq
    · exact ⟨ho, hd.2⟩
    · have := N q (List.mem_append_right _ (.tail _ hq))
      exact ⟨R.keep _ _ this.1 fun e => h2 q hq (List.mem_singleton.mp e), this.2⟩
theorem UpdF.mem {d : Addr} {o : Obj} : ∀ {l : List (Addr × Obj)} {g : Obj → List (Addr × Obj)}, UpdF d o l g → (d, o) ∈ l
  | _, _, .head _ => .head _
  | _, _, .tail _ r => .tail _ (UpdF.mem r)

/-- a comprehension whose elements change the ledger: an invariant over the turn's number, the items so far, the ledger -/
theorem compRest_inv {prog : Program} {w : World} {A : Around} {h₀ : Heap} {L : Addr} {m : Str → Option Value} {env : Env} {elt : Expr} {x : Str} {scope : Scope} {cl : List (Str × Addr)} {s : Shared}
    {S : List (Addr × Obj) → Prop} {P : Nat → Value → Prop} {Fin : List Value → List (Addr × Obj) → Prop} {news : List (Addr × Obj)} {n : Nat} (J : Nat → List Value → List (Addr × Obj) → Prop) (start : J 0 [] news)
    (turn : ∀ i v I oI C oC D m₂ ys news h tk (E' : Value → Shared → Prop), i < n → P i v → J i ys news → LCg.NsObj oC m₂ → m₂ x = some v → Fr h₀ L h m → News h₀ L h ((I, oI) :: (C, oC) :: (D, LCg.lst ys) :: news) → LCg.Off3 I C D news → ((@Ne Nat I C) ∧ (@Ne Nat I D) ∧ (@Ne Nat C D)) →
      wpAny (model prog w) A (eval elt (compEnvC scope cl C env)) (LCg.CompEnd h₀ L m { s with heap := h, toks := tk } I oI C oC D (LCg.lst ys) S (fun y news' => J (i + 1) (ys ++ [y]) news')) E' { s with heap := h, toks := tk })
    (fin : ∀ ys news, J n ys news → Fin ys news) : LCg.CompRest prog w A h₀ L m env elt x scope cl s S P Fin n 0 [] news := by
  have key : ∀ (j i : Nat) (ys : List Value) (news : List (Addr × Obj)), i + j = n → J i ys news → LCg.CompRest prog w A h₀ L m env elt x scope cl s S P Fin j i ys news := by
    intro j
    induction j with
    | zero =>
      intro i ys news hi hJ
      have e : i = n := by omega
      subst e
      exact LCg.CompRest.zero (fin ys news hJ)
    | succ j ih =>
      intro i ys news hi hJ
      refine LCg.CompRest.succ ?_
      intro v I oI C oC D m₂ h tk E' hv hC hx F N off ne
      refine wpAny_mono (turn i v I oI C oC D m₂ ys news h tk E' (by omega) hv hJ hC hx F N off ne) (fun y s₂ hq => ?_) fun _ _ e => e
      obtain ⟨h', tk', nw, e, F', N', off', hS, hJ'⟩ := hq
      exact ⟨h', tk', nw, e, F', N', off', hS, ih (i + 1) _ nw (by omega) hJ'⟩
  exact key n 0 [] news (by omega) start
end
open PySem PySem.W PySem.Calls PyProof.Rows
set_option Elab.async false
set_option maxRecDepth 100000
set_option maxHeartbeats 8000000
section
theorem fm0 (a : Int) {m : Int} (h : 0 < m) : 0 ≤ a.fmod m := Int.fmod_nonneg_of_pos a h
theorem fm1 (a : Int) {m : Int} (h : 0 < m) : a.fmod m < m := Int.fmod_lt_of_pos a h
theorem fd0 {a m : Int} (ha : 0 ≤ a) (h : 0 < m) : 0 ≤ a.fdiv m := Int.fdiv_nonneg ha (Int.le_of_lt h)
theorem draw_core {w : World} {mean : ExcName → Option Value} {mg mb : Str → Option Value} {dp un : Nat} {fr : Option (List Env)} {gd : Option (List Code)} {s : Shared} {h₀ : Heap}
    {p c : Addr} {x k : Int} {tx tk : Tok} {n : Nat} {cells : List Value} {ns : List Int} {most : Int} {tm : Tok} {Q : Value → Shared → Prop}
    (hdp : dp + 5 < recursionLimit)
    (hk₀ : ∀ b o, h₀.get? b = some o → s.heap.get? b = some o) (X₀ : (hd.heap_39 w.params).In h₀) (T₀ : Top hd.view_39 (looseW hd.view_39 []) mean mg mb h₀)
    (hp : s.heap.get? p = some (listOf #[.int x tx, .int k tk, .ref c] n)) (hp0 : h₀.get? p = none)
    (hc : s.heap.IsList c cells.toArray) (hi : IntsAre cells ns) (hne : c ≠ p) (hx : 0 ≤ x) (hk0 : 0 ≤ k) (hk1 : k < 1000) (hm0 : 0 < most) (hm1 : most < 1000) (hl0 : 0 < ns.length) (hl1 : ns.length ≤ 40)
    (h : ∀ d td x' tx' k' tk' n' h' tk₁, Ret s [p] { s with heap := h', toks := tk₁ } → h'.get? p = some (listOf #[.int x' tx', .int k' tk', .ref c] n') → 0 ≤ d → d < most → 0 ≤ x' → 0 ≤ k' → k' ≤ k + 1 → Q (.int d td) { s with heap := h', toks := tk₁ }) :
    wpAny (model PySem.Challenge.rw_nn0292_01.row.prog w) (Ar dp un fr gd) (call (.ref 63) [.ref p, .int most tm]) Q (fun _ _ => False) s := by
  w_top off
  k_with_none
  have _hx : (PySem.Challenge.rw_nn0292_01 = PySem.Challenge.rw_nn0292_01) ∧ (Mine.hd.heap_39 = Mine.hd.heap_39) := by k_fill; exact ⟨rfl, rfl⟩
  refine' enter [(p, listOf #[.int x tx, .int k tk, .ref c] n)] [(Str.ofString "pool", .ref p), (Str.ofString "most", .int most tm)] hk₀ X₀ T₀ (by simp [hp, hp0]) ?k6 ?k7 ?k8 ?k9 ?kB ?_ ?c2 ?c3 ?c4 ?c5
  case k6 => k_is
  case k7 => k_is
  case k8 => (show dp < recursionLimit; omega)
  case k9 => exact BindsTo.of_eq rfl
  case c5 => decide
  case kB => exact locs rfl
  case c2 => exact rfl
  case c3 => exact rfl
  case c4 => exact rfl
  intro g L' h₁ tk₀ G F N X T
  try dsimp only
  k_fold
  have hcg : g.IsList c cells.toArray := by
    obtain ⟨o, ho, r⟩ := hc
    exact ⟨o, G _ _ ho (by simpa using hne), r⟩
  clear hk₀ X₀ T₀ hp hp0 hc
  k_steps
  all_goals (
    show Q _ _
    refine h _ _ _ _ _ _ _ _ _ (back G (by assumption)) (News.get (by assumption) (List.Mem.head _)) ?_ ?_ ?_ ?_ ?_
    all_goals first
      | omega
      | exact fm0 _ hm0
      | exact fm1 _ hm0
      | exact fd0 hx hm0
      | exact fd0 (fm0 _ (by decide)) hm0)

theorem draw_use {w : World} {mean : ExcName → Option Value} {mg mb : Str → Option Value} {A : Around} {s : Shared} {h₀ : Heap} {L : Addr} {m : Str → Option Value} {news : List (Addr × Obj)} {gU : Obj → List (Addr × Obj)}
    {p c : Addr} {x k : Int} {tx tk : Tok} {n : Nat} {cells : List Value} {ns : List Int} {most : Int} {tm : Tok} {Q E : Value → Shared → Prop}
    (hh : A.handled = none) (hdp : A.depth + 5 < recursionLimit)
    (F : Fr h₀ L s.heap m) (X₀ : (hd.heap_39 w.params).In h₀) (T₀ : Top hd.view_39 (looseW hd.view_39 []) mean mg mb h₀)
    (N : News h₀ L s.heap news) (U : UpdF p (listOf #[.int x tx, .int k tk, .ref c] n) news gU)
    (hc : s.heap.IsList c cells.toArray) (hi : IntsAre cells ns) (hne : c ≠ p) (hx : 0 ≤ x) (hk0 : 0 ≤ k) (hk1 : k < 1000) (hm0 : 0 < most) (hm1 : most < 1000) (hl0 : 0 < ns.length) (hl1 : ns.length ≤ 40)
    (h : ∀ d td x' tx' k' tk' n' h' tk₁, Fr h₀ L h' m → News h₀ L h' (gU (listOf #[.int x' tx', .int k' tk', .ref c] n')) → 0 ≤ d → d < most → 0 ≤ x' → 0 ≤ k' → k' ≤ k + 1 → Q (.int d td) { s with heap := h', toks := tk₁ }) :
    wpAny (model PySem.Challenge.rw_nn0292_01.row.prog w) A (call (.ref 63) [.ref p, .int most tm]) Q E s := by
  obtain ⟨hd, d, fr, gd, un⟩ := A
  obtain rfl : hd = none := hh
  have hp := N _ (UpdF.mem U)
  refine wpAny_mono (draw_core hdp F.keep X₀ T₀ hp.1 hp.2.2 hc hi hne hx hk0 hk1 hm0 hm1 hl0 hl1 fun d td x' tx' k' tk' n' h' tk₁ R ho a b c e f => ?_) (fun _ _ x => x) fun _ _ x => x.elim
  obtain ⟨F', N'⟩ := R.upd ho F N U
  exact h d td x' tx' k' tk' n' h' tk₁ F' N' a b c e f
end
open PySem PySem.W PySem.Calls PyProof.Rows
set_option Elab.async false
set_option maxRecDepth 100000
set_option maxHeartbeats 8000000
section
abbrev tupOf (vs : List Value) : Obj := { cls := .type "tuple", data := .seq vs.toArray }

inductive Row where
  | set | jump (t : Int) | unls (t : Int) | mtch (t : Int) | again (t : Int) | enter (c t : Int) | leave (c : Int) | fork (ts : List Int) | ende | ret | join

inductive RowAt (S : Addr → Obj → Prop) : Value → Row → Prop
  | set {a t x y} : S a (tupOf [.str (Str.ofString "set") t, x, y]) → RowAt S (.ref a) .set
  | jump {a t i u} : S a (tupOf [.str (Str.ofString "jump") t, .int i u]) → RowAt S (.ref a) (.jump i)
  | unls {a t x i u} : S a (tupOf [.str (Str.ofString "unless") t, x, .int i u]) → RowAt S (.ref a) (.unls i)
  | mtch {a t x y z i u} : S a (tupOf [.str (Str.ofString "match") t, x, y, z, .int i u]) → RowAt S (.ref a) (.mtch i)
  | again {a t x i u} : S a (tupOf [.str (Str.ofString "again") t, x, .int i u]) → RowAt S (.ref a) (.again i)
  | enter {a t c v i u} : S a (tupOf [.str (Str.ofString "enter") t, .int c v, .int i u]) → RowAt S (.ref a) (.enter c i)
  | leave {a t c v} : S a (tupOf [.str (Str.ofString "leave") t, .int c v]) → RowAt S (.ref a) (.leave c)
  | fork {a t b x vs ts} : S a (tupOf [.str (Str.ofString "fork") t, .ref b, x]) → S b (tupOf vs) → IntsAre vs ts → ts.length ≤ 2 → RowAt S (.ref a) (.fork ts)
  | ende {a t} : S a (tupOf [.str (Str.ofString "end") t]) → RowAt S (.ref a) .ende
  | ret {a t} : S a (tupOf [.str (Str.ofString "return") t]) → RowAt S (.ref a) .ret
  | join {a t} : S a (tupOf [.str (Str.ofString "join") t]) → RowAt S (.ref a) .join


def ForkJ (a1 : Addr) (o1 : Obj) (a2 : Addr) (o2 : Obj) (p c : Addr) (kb : Int) (i : Nat) (ys : List Value) (news : List (Addr × Obj)) : Prop :=
  ∃ x tx k tk n, news = [(a1, o1), (a2, o2), (p, listOf #[.int x tx, .int k tk, .ref c] n)] ∧ 0 ≤ x ∧ 0 ≤ k ∧ k ≤ kb + i ∧ ∃ ts, IntsAre ys ts ∧ ts.length = i
theorem forkJ_end {a1 : Addr} {o1 : Obj} {a2 : Addr} {o2 : Obj} {p c : Addr} {kb : Int} {i : Nat} {ys : List Value} {ts : List Int} {x k d : Int} {tx tk td : Tok} {n : Nat} (hx : 0 ≤ x) (hk : 0 ≤ k) (hk' : k ≤ kb + i + 1) (hi : IntsAre ys ts) (hl : ts.length = i) :
    ForkJ a1 o1 a2 o2 p c kb (i + 1) (ys ++ [.int d td]) [(a1, o1), (a2, o2), (p, listOf #[.int x tx, .int k tk, .ref c] n)] :=
  ⟨x, tx, k, tk, n, rfl, hx, hk, by omega, ts ++ [d], IntsAre.append hi (.cons _ _ .nil), by simp [hl]⟩

theorem fresh_of {s : Shared} {g h' : Heap} {L' a : Addr} {o : Obj} {news : List (Addr × Obj)} {muts : List Addr} (G : ∀ b o, s.heap.get? b = some o → b ∉ muts → g.get? b = some o) (N : News g L' h' news) (hm : (a, o) ∈ news) (hn : a ∉ muts) :
    h'.get? a = some o ∧ s.heap.get? a = none := by
  refine ⟨(N _ hm).1, ?_⟩
  cases q : s.heap.get? a with
  | none => rfl
  | some o' => have := G _ _ q hn; rw [(N _ hm).2.2] at this; cases this

theorem off_p {g h' : Heap} {L' a p : Addr} {o o' : Obj} {news : List (Addr × Obj)} (N : News g L' h' news) (h1 : (a, o) ∈ news) (h2 : (p, o') ∈ news) (hc : o.cls ≠ o'.cls) : a ∉ [p] := by
  intro e
  have e' := List.mem_singleton.mp e
  subst e'
  have x1 := (N _ h1).1
  have x2 := (N _ h2).1
  rw [x1] at x2
  exact hc (congrArg Obj.cls (Option.some.inj x2))

theorem row_core {w : World} {mean : ExcName → Option Value} {mg mb : Str → Option Value} {dp un : Nat} {fr : Option (List Env)} {gd : Option (List Code)} {s : Shared} {h₀ : Heap}
    {p c : Addr} {x k : Int} {tx tk : Tok} {n : Nat} {cells : List Value} {ns : List Int} {most : Int} {tm : Tok} {Q : Value → Shared → Prop}
    (hdp : dp + 10 < recursionLimit)
    (hk₀ : ∀ b o, h₀.get? b = some o → s.heap.get? b = some o) (X₀ : (hd.heap_39 w.params).In h₀) (T₀ : Top hd.view_39 (looseW hd.view_39 []) mean mg mb h₀)
    (hp : s.heap.get? p = some (listOf #[.int x tx, .int k tk, .ref c] n)) (hp0 : h₀.get? p = none)
    (hc : s.heap.IsList c cells.toArray) (hi : IntsAre cells ns) (hne : c ≠ p) (hx : 0 ≤ x) (hk0 : 0 ≤ k) (hk1 : k < 900) (hm0 : 0 < most) (hm1 : most < 100) (hl0 : 0 < ns.length) (hl1 : ns.length ≤ 40)
    (h : ∀ r x' tx' k' tk' n' h' tk₁, Ret s [p] { s with heap := h', toks := tk₁ } → h'.get? p = some (listOf #[.int x' tx', .int k' tk', .ref c] n') →
      (∃ row, RowAt (fun a o => h'.get? a = some o ∧ s.heap.get? a = none) r row) → 0 ≤ x' → 0 ≤ k' → k' ≤ k + 4 → Q r { s with heap := h', toks := tk₁ }) :
    wpAny (model PySem.Challenge.rw_nn0292_01.row.prog w) (Ar dp un fr gd) (call (.ref 68) [.ref p, .int most tm]) Q (fun _ _ => False) s := by
  w_top off
  k_with_none
  (k_with "CompSrc" => (k_here; k_dflt (refine LCg.CompSrc.range (by rfl) (by k_asm) (by k_asm) (by assumption) (small_one (by omega) (by omega) (by omega) (by omega)) (rangeSize_nat _ _) (by rw [PySem.sizeLine_eq]; omega) ?_; intro g'_z1; refine' compRest_inv (ForkJ _ _ _ _ _ _ _) ⟨_, _, _, _, _, rfl, by omega, by omega, Int.le_of_eq (Int.add_zero _).symm, [], .nil, rfl⟩ ?turn_z1 ?fin_z1); (case' turn_z1 => (k_dflt (intro i_z1 v_z1 I_z1 oI_z1 C_z1 oC_z1 D_z1 m₂_z1 ys_z1 news_z1 h_z1 tk_z1 E'_z1 hi_z1 hv_z1 hJ_z1 hC_z1 hx'_z1 F'_z1 N'_z1 off_z1 ne_z1; obtain ⟨x1_z1, tx1_z1, k1_z1, tk1_z1, n1_z1, e1_z1, hx1_z1, hk1'_z1, hk2_z1, ts_z1, hts_z1, htl_z1⟩ := hJ_z1; subst e1_z1; obtain ⟨t_z1, e2_z1⟩ := hv_z1; subst e2_z1; (try simp only [LCg.Off3, and_true] at off_z1); (try k_fold)))); (case' fin_z1 => (k_dflt (intro ys_z1 news_z1 hJ_z1; obtain ⟨x1_z1, tx1_z1, k1_z1, tk1_z1, n1_z1, e1_z1, hx1_z1, hk1'_z1, hk2_z1, ts_z1, hts_z1, htl_z1⟩ := hJ_z1; subst e1_z1)))))
  (k_with "CompSrc" => (k_here; k_dflt (refine LCg.CompSrc.range (by rfl) (by k_asm) (by k_asm) (by assumption) (small_one (by omega) (by omega) (by omega) (by omega)) (rangeSize_nat _ _) (by rw [PySem.sizeLine_eq]; omega) ?_; intro g'_z2; refine' compRest_inv (ForkJ _ _ _ _ _ _ _) ⟨_, _, _, _, _, rfl, by omega, by omega, Int.le_of_eq (Int.add_zero _).symm, [], .nil, rfl⟩ ?turn_z2 ?fin_z2); (case' turn_z2 => (k_dflt (intro i_z2 v_z2 I_z2 oI_z2 C_z2 oC_z2 D_z2 m₂_z2 ys_z2 news_z2 h_z2 tk_z2 E'_z2 hi_z2 hv_z2 hJ_z2 hC_z2 hx'_z2 F'_z2 N'_z2 off_z2 ne_z2; obtain ⟨x1_z2, tx1_z2, k1_z2, tk1_z2, n1_z2, e1_z2, hx1_z2, hk1'_z2, hk2_z2, ts_z2, hts_z2, htl_z2⟩ := hJ_z2; subst e1_z2; obtain ⟨t_z2, e2_z2⟩ := hv_z2; subst e2_z2; (try simp only [LCg.Off3, and_true] at off_z2); (try k_fold)))); (case' fin_z2 => (k_dflt (intro ys_z2 news_z2 hJ_z2; obtain ⟨x1_z2, tx1_z2, k1_z2, tk1_z2, n1_z2, e1_z2, hx1_z2, hk1'_z2, hk2_z2, ts_z2, hts_z2, htl_z2⟩ := hJ_z2; subst e1_z2)))))
  (k_with "ForkJ" => (refine forkJ_end ?_ ?_ ?_ (by assumption) (by assumption) <;> omega))
  (k_with "call ref" => (k_here; (with_reducible show wpAny _ _ (call (Value.ref 63) [Value.ref _, Value.int _ _]) _ _ _); (with_unfolding_all refine' draw_use ?hh_z4 ?hdp_z4 ?F_z4 ?X_z4 ?T_z4 ?N_z4 ?U_z4 ?hc_z4 ?hi_z4 ?hne_z4 ?hx_z4 ?hk0_z4 ?hk1_z4 ?hm0_z4 ?hm1_z4 ?hl0_z4 ?hl1_z4 ?_); (case hh_z4 => exact rfl); (case hdp_z4 => ((try simp only [depth_under_make, depth_under_kw, depth_in1, depth_deeper]); (try dsimp only [Ar]); omega)); (case F_z4 => k_asm); (case X_z4 => k_asm); (case T_z4 => k_asm); (case N_z4 => k_asm); (case U_z4 => k_updF); (case hc_z4 => is_list); (case hi_z4 => assumption); (case hne_z4 => assumption); (case hx_z4 => first | assumption | omega); (case hk0_z4 => first | assumption | omega); (case hk1_z4 => first | assumption | omega); (case hm0_z4 => first | assumption | decide | omega); (case hm1_z4 => first | assumption | decide | omega); (case hl0_z4 => assumption); (case hl1_z4 => assumption); k_whole; intro d_z4 td_z4 x'_z4 tx'_z4 k'_z4 tk'_z4 n'_z4 h'_z4 tk₁_z4 F'_z4 N'_z4 hd0_z4 hd1_z4 hx'_z4 hk0'_z4 hk1'_z4; (try k_sweep)))
  (k_with "call ref" => (k_here; (with_reducible show wpAny _ _ (call (Value.ref 63) [Value.ref _, Value.int _ _]) _ _ _); (with_unfolding_all refine' draw_use ?hh_z5 ?hdp_z5 ?F_z5 ?X_z5 ?T_z5 ?N_z5 ?U_z5 ?hc_z5 ?hi_z5 ?hne_z5 ?hx_z5 ?hk0_z5 ?hk1_z5 ?hm0_z5 ?hm1_z5 ?hl0_z5 ?hl1_z5 ?_); (case hh_z5 => exact rfl); (case hdp_z5 => ((try simp only [depth_under_make, depth_under_kw, depth_in1, depth_deeper]); (try dsimp only [Ar]); omega)); (case F_z5 => k_asm); (case X_z5 => k_asm); (case T_z5 => k_asm); (case N_z5 => k_asm); (case U_z5 => k_updF); (case hc_z5 => is_list); (case hi_z5 => assumption); (case hne_z5 => assumption); (case hx_z5 => first | assumption | omega); (case hk0_z5 => first | assumption | omega); (case hk1_z5 => first | assumption | omega); (case hm0_z5 => first | assumption | decide | omega); (case hm1_z5 => first | assumption | decide | omega); (case hl0_z5 => assumption); (case hl1_z5 => assumption); k_whole; intro d_z5 td_z5 x'_z5 tx'_z5 k'_z5 tk'_z5 n'_z5 h'_z5 tk₁_z5 F'_z5 N'_z5 hd0_z5 hd1_z5 hx'_z5 hk0'_z5 hk1'_z5; (try k_sweep)))
  (k_with "call ref" => (k_here; (with_reducible show wpAny _ _ (call (Value.ref 63) [Value.ref _, Value.int _ _]) _ _ _); (with_unfolding_all refine' draw_use ?hh_z6 ?hdp_z6 ?F_z6 ?X_z6 ?T_z6 ?N_z6 ?U_z6 ?hc_z6 ?hi_z6 ?hne_z6 ?hx_z6 ?hk0_z6 ?hk1_z6 ?hm0_z6 ?hm1_z6 ?hl0_z6 ?hl1_z6 ?_); (case hh_z6 => exact rfl); (case hdp_z6 => ((try simp only [depth_under_make, depth_under_kw, depth_in1, depth_deeper]); (try dsimp only [Ar]); omega)); (case F_z6 => k_asm); (case X_z6 => k_asm); (case T_z6 => k_asm); (case N_z6 => k_asm); (case U_z6 => k_updF); (case hc_z6 => is_list); (case hi_z6 => assumption); (case hne_z6 => assumption); (case hx_z6 => first | assumption | omega); (case hk0_z6 => first | assumption | omega); (case hk1_z6 => first | assumption | omega); (case hm0_z6 => first | assumption | decide | omega); (case hm1_z6 => first | assumption | decide | omega); (case hl0_z6 => assumption); (case hl1_z6 => assumption); k_whole; intro d_z6 td_z6 x'_z6 tx'_z6 k'_z6 tk'_z6 n'_z6 h'_z6 tk₁_z6 F'_z6 N'_z6 hd0_z6 hd1_z6 hx'_z6 hk0'_z6 hk1'_z6; (try k_sweep)))
  (k_with "call ref" => (k_here; (with_reducible show wpAny _ _ (call (Value.ref 63) [Value.ref _, Value.int _ _]) _ _ _); (with_unfolding_all refine' draw_use ?hh_z7 ?hdp_z7 ?F_z7 ?X_z7 ?T_z7 ?N_z7 ?U_z7 ?hc_z7 ?hi_z7 ?hne_z7 ?hx_z7 ?hk0_z7 ?hk1_z7 ?hm0_z7 ?hm1_z7 ?hl0_z7 ?hl1_z7 ?_); (case hh_z7 => exact rfl); (case hdp_z7 => ((try simp only [depth_under_make, depth_under_kw, depth_in1, depth_deeper]); (try dsimp only [Ar]); omega)); (case F_z7 => k_asm); (case X_z7 => k_asm); (case T_z7 => k_asm); (case N_z7 => k_asm); (case U_z7 => k_updF); (case hc_z7 => is_list); (case hi_z7 => assumption); (case hne_z7 => assumption); (case hx_z7 => first | assumption | omega); (case hk0_z7 => first | assumption | omega); (case hk1_z7 => first | assumption | omega); (case hm0_z7 => first | assumption | decide | omega); (case hm1_z7 => first | assumption | decide | omega); (case hl0_z7 => assumption); (case hl1_z7 => assumption); k_whole; intro d_z7 td_z7 x'_z7 tx'_z7 k'_z7 tk'_z7 n'_z7 h'_z7 tk₁_z7 F'_z7 N'_z7 hd0_z7 hd1_z7 hx'_z7 hk0'_z7 hk1'_z7; (try k_sweep)))
  (k_with "call ref" => (k_here; (with_reducible show wpAny _ _ (call (Value.ref 63) [Value.ref _, Value.int _ _]) _ _ _); (with_unfolding_all refine' draw_use ?hh_z8 ?hdp_z8 ?F_z8 ?X_z8 ?T_z8 ?N_z8 ?U_z8 ?hc_z8 ?hi_z8 ?hne_z8 ?hx_z8 ?hk0_z8 ?hk1_z8 ?hm0_z8 ?hm1_z8 ?hl0_z8 ?hl1_z8 ?_); (case hh_z8 => exact rfl); (case hdp_z8 => ((try simp only [depth_under_make, depth_under_kw, depth_in1, depth_deeper]); (try dsimp only [Ar]); omega)); (case F_z8 => k_asm); (case X_z8 => k_asm); (case T_z8 => k_asm); (case N_z8 => k_asm); (case U_z8 => k_updF); (case hc_z8 => is_list); (case hi_z8 => assumption); (case hne_z8 => assumption); (case hx_z8 => first | assumption | omega); (case hk0_z8 => first | assumption | omega); (case hk1_z8 => first | assumption | omega); (case hm0_z8 => first | assumption | decide | omega); (case hm1_z8 => first | assumption | decide | omega); (case hl0_z8 => assumption); (case hl1_z8 => assumption); k_whole; intro d_z8 td_z8 x'_z8 tx'_z8 k'_z8 tk'_z8 n'_z8 h'_z8 tk₁_z8 F'_z8 N'_z8 hd0_z8 hd1_z8 hx'_z8 hk0'_z8 hk1'_z8; (try k_sweep)))
  (k_with "call ref" => (k_here; (with_reducible show wpAny _ _ (call (Value.ref 63) [Value.ref _, Value.int _ _]) _ _ _); (with_unfolding_all refine' draw_use ?hh_z9 ?hdp_z9 ?F_z9 ?X_z9 ?T_z9 ?N_z9 ?U_z9 ?hc_z9 ?hi_z9 ?hne_z9 ?hx_z9 ?hk0_z9 ?hk1_z9 ?hm0_z9 ?hm1_z9 ?hl0_z9 ?hl1_z9 ?_); (case hh_z9 => exact rfl); (case hdp_z9 => ((try simp only [depth_under_make, depth_under_kw, depth_in1, depth_deeper]); (try dsimp only [Ar]); omega)); (case F_z9 => k_asm); (case X_z9 => k_asm); (case T_z9 => k_asm); (case N_z9 => k_asm); (case U_z9 => k_updF); (case hc_z9 => is_list); (case hi_z9 => assumption); (case hne_z9 => assumption); (case hx_z9 => first | assumption | omega); (case hk0_z9 => first | assumption | omega); (case hk1_z9 => first | assumption | omega); (case hm0_z9 => first | assumption | decide | omega); (case hm1_z9 => first | assumption | decide | omega); (case hl0_z9 => assumption); (case hl1_z9 => assumption); k_whole; intro d_z9 td_z9 x'_z9 tx'_z9 k'_z9 tk'_z9 n'_z9 h'_z9 tk₁_z9 F'_z9 N'_z9 hd0_z9 hd1_z9 hx'_z9 hk0'_z9 hk1'_z9; (try k_sweep)))
  (k_with "call ref" => (k_here; (with_reducible show wpAny _ _ (call (Value.ref 63) [Value.ref _, Value.int _ _]) _ _ _); (with_unfolding_all refine' draw_use ?hh_z10 ?hdp_z10 ?F_z10 ?X_z10 ?T_z10 ?N_z10 ?U_z10 ?hc_z10 ?hi_z10 ?hne_z10 ?hx_z10 ?hk0_z10 ?hk1_z10 ?hm0_z10 ?hm1_z10 ?hl0_z10 ?hl1_z10 ?_); (case hh_z10 => exact rfl); (case hdp_z10 => ((try simp only [depth_under_make, depth_under_kw, depth_in1, depth_deeper]); (try dsimp only [Ar]); omega)); (case F_z10 => k_asm); (case X_z10 => k_asm); (case T_z10 => k_asm); (case N_z10 => k_asm); (case U_z10 => k_updF); (case hc_z10 => is_list); (case hi_z10 => assumption); (case hne_z10 => assumption); (case hx_z10 => first | assumption | omega); (case hk0_z10 => first | assumption | omega); (case hk1_z10 => first | assumption | omega); (case hm0_z10 => first | assumption | decide | omega); (case hm1_z10 => first | assumption | decide | omega); (case hl0_z10 => assumption); (case hl1_z10 => assumption); k_whole; intro d_z10 td_z10 x'_z10 tx'_z10 k'_z10 tk'_z10 n'_z10 h'_z10 tk₁_z10 F'_z10 N'_z10 hd0_z10 hd1_z10 hx'_z10 hk0'_z10 hk1'_z10; (try k_sweep)))
  (k_with "call ref" => (k_here; (with_reducible show wpAny _ _ (call (Value.ref 63) [Value.ref _, Value.int _ _]) _ _ _); (with_unfolding_all refine' draw_use ?hh_z11 ?hdp_z11 ?F_z11 ?X_z11 ?T_z11 ?N_z11 ?U_z11 ?hc_z11 ?hi_z11 ?hne_z11 ?hx_z11 ?hk0_z11 ?hk1_z11 ?hm0_z11 ?hm1_z11 ?hl0_z11 ?hl1_z11 ?_); (case hh_z11 => exact rfl); (case hdp_z11 => ((try simp only [depth_under_make, depth_under_kw, depth_in1, depth_deeper]); (try dsimp only [Ar]); omega)); (case F_z11 => k_asm); (case X_z11 => k_asm); (case T_z11 => k_asm); (case N_z11 => k_asm); (case U_z11 => k_updF); (case hc_z11 => is_list); (case hi_z11 => assumption); (case hne_z11 => assumption); (case hx_z11 => first | assumption | omega); (case hk0_z11 => first | assumption | omega); (case hk1_z11 => first | assumption | omega); (case hm0_z11 => first | assumption | decide | omega); (case hm1_z11 => first | assumption | decide | omega); (case hl0_z11 => assumption); (case hl1_z11 => assumption); k_whole; intro d_z11 td_z11 x'_z11 tx'_z11 k'_z11 tk'_z11 n'_z11 h'_z11 tk₁_z11 F'_z11 N'_z11 hd0_z11 hd1_z11 hx'_z11 hk0'_z11 hk1'_z11; (try k_sweep)))
  (k_with "call ref" => (k_here; (with_reducible show wpAny _ _ (call (Value.ref 63) [Value.ref _, Value.int _ _]) _ _ _); (with_unfolding_all refine' draw_use ?hh_z12 ?hdp_z12 ?F_z12 ?X_z12 ?T_z12 ?N_z12 ?U_z12 ?hc_z12 ?hi_z12 ?hne_z12 ?hx_z12 ?hk0_z12 ?hk1_z12 ?hm0_z12 ?hm1_z12 ?hl0_z12 ?hl1_z12 ?_); (case hh_z12 => exact rfl); (case hdp_z12 => ((try simp only [depth_under_make, depth_under_kw, depth_in1, depth_deeper]); (try dsimp only [Ar]); omega)); (case F_z12 => k_asm); (case X_z12 => k_asm); (case T_z12 => k_asm); (case N_z12 => k_asm); (case U_z12 => k_updF); (case hc_z12 => is_list); (case hi_z12 => assumption); (case hne_z12 => assumption); (case hx_z12 => first | assumption | omega); (case hk0_z12 => first | assumption | omega); (case hk1_z12 => first | assumption | omega); (case hm0_z12 => first | assumption | decide | omega); (case hm1_z12 => first | assumption | decide | omega); (case hl0_z12 => assumption); (case hl1_z12 => assumption); k_whole; intro d_z12 td_z12 x'_z12 tx'_z12 k'_z12 tk'_z12 n'_z12 h'_z12 tk₁_z12 F'_z12 N'_z12 hd0_z12 hd1_z12 hx'_z12 hk0'_z12 hk1'_z12; (try k_sweep)))
  (k_with "call ref" => (k_here; (with_reducible show wpAny _ _ (call (Value.ref 63) [Value.ref _, Value.int _ _]) _ _ _); (with_unfolding_all refine' draw_use ?hh_z13 ?hdp_z13 ?F_z13 ?X_z13 ?T_z13 ?N_z13 ?U_z13 ?hc_z13 ?hi_z13 ?hne_z13 ?hx_z13 ?hk0_z13 ?hk1_z13 ?hm0_z13 ?hm1_z13 ?hl0_z13 ?hl1_z13 ?_); (case hh_z13 => exact rfl); (case hdp_z13 => ((try simp only [depth_under_make, depth_under_kw, depth_in1, depth_deeper]); (try dsimp only [Ar]); omega)); (case F_z13 => k_asm); (case X_z13 => k_asm); (case T_z13 => k_asm); (case N_z13 => k_asm); (case U_z13 => k_updF); (case hc_z13 => is_list); (case hi_z13 => assumption); (case hne_z13 => assumption); (case hx_z13 => first | assumption | omega); (case hk0_z13 => first | assumption | omega); (case hk1_z13 => first | assumption | omega); (case hm0_z13 => first | assumption | decide | omega); (case hm1_z13 => first | assumption | decide | omega); (case hl0_z13 => assumption); (case hl1_z13 => assumption); k_whole; intro d_z13 td_z13 x'_z13 tx'_z13 k'_z13 tk'_z13 n'_z13 h'_z13 tk₁_z13 F'_z13 N'_z13 hd0_z13 hd1_z13 hx'_z13 hk0'_z13 hk1'_z13; (try k_sweep)))
  (k_with "call ref" => (k_here; (with_reducible show wpAny _ _ (call (Value.ref 63) [Value.ref _, Value.int _ _]) _ _ _); (with_unfolding_all refine' draw_use ?hh_z14 ?hdp_z14 ?F_z14 ?X_z14 ?T_z14 ?N_z14 ?U_z14 ?hc_z14 ?hi_z14 ?hne_z14 ?hx_z14 ?hk0_z14 ?hk1_z14 ?hm0_z14 ?hm1_z14 ?hl0_z14 ?hl1_z14 ?_); (case hh_z14 => exact rfl); (case hdp_z14 => ((try simp only [depth_under_make, depth_under_kw, depth_in1, depth_deeper]); (try dsimp only [Ar]); omega)); (case F_z14 => k_asm); (case X_z14 => k_asm); (case T_z14 => k_asm); (case N_z14 => k_asm); (case U_z14 => k_updF); (case hc_z14 => is_list); (case hi_z14 => assumption); (case hne_z14 => assumption); (case hx_z14 => first | assumption | omega); (case hk0_z14 => first | assumption | omega); (case hk1_z14 => first | assumption | omega); (case hm0_z14 => first | assumption | decide | omega); (case hm1_z14 => first | assumption | decide | omega); (case hl0_z14 => assumption); (case hl1_z14 => assumption); k_whole; intro d_z14 td_z14 x'_z14 tx'_z14 k'_z14 tk'_z14 n'_z14 h'_z14 tk₁_z14 F'_z14 N'_z14 hd0_z14 hd1_z14 hx'_z14 hk0'_z14 hk1'_z14; (try k_sweep)))
  (k_with "call ref" => (k_here; (with_reducible show wpAny _ _ (call (Value.ref 63) [Value.ref _, Value.int _ _]) _ _ _); (with_unfolding_all refine' draw_use ?hh_z15 ?hdp_z15 ?F_z15 ?X_z15 ?T_z15 ?N_z15 ?U_z15 ?hc_z15 ?hi_z15 ?hne_z15 ?hx_z15 ?hk0_z15 ?hk1_z15 ?hm0_z15 ?hm1_z15 ?hl0_z15 ?hl1_z15 ?_); (case hh_z15 => exact rfl); (case hdp_z15 => ((try simp only [depth_under_make, depth_under_kw, depth_in1, depth_deeper]); (try dsimp only [Ar]); omega)); (case F_z15 => k_asm); (case X_z15 => k_asm); (case T_z15 => k_asm); (case N_z15 => k_asm); (case U_z15 => k_updF); (case hc_z15 => is_list); (case hi_z15 => assumption); (case hne_z15 => assumption); (case hx_z15 => first | assumption | omega); (case hk0_z15 => first | assumption | omega); (case hk1_z15 => first | assumption | omega); (case hm0_z15 => first | assumption | decide | omega); (case hm1_z15 => first | assumption | decide | omega); (case hl0_z15 => assumption); (case hl1_z15 => assumption); k_whole; intro d_z15 td_z15 x'_z15 tx'_z15 k'_z15 tk'_z15 n'_z15 h'_z15 tk₁_z15 F'_z15 N'_z15 hd0_z15 hd1_z15 hx'_z15 hk0'_z15 hk1'_z15; (try k_sweep)))
  (k_with "call ref" => (k_here; (with_reducible show wpAny _ _ (call (Value.ref 63) [Value.ref _, Value.int _ _]) _ _ _); (with_unfolding_all refine' draw_use ?hh_z16 ?hdp_z16 ?F_z16 ?X_z16 ?T_z16 ?N_z16 ?U_z16 ?hc_z16 ?hi_z16 ?hne_z16 ?hx_z16 ?hk0_z16 ?hk1_z16 ?hm0_z16 ?hm1_z16 ?hl0_z16 ?hl1_z16 ?_); (case hh_z16 => exact rfl); (case hdp_z16 => ((try simp only [depth_under_make, depth_under_kw, depth_in1, depth_deeper]); (try dsimp only [Ar]); omega)); (case F_z16 => k_asm); (case X_z16 => k_asm); (case T_z16 => k_asm); (case N_z16 => k_asm); (case U_z16 => k_updF); (case hc_z16 => is_list); (case hi_z16 => assumption); (case hne_z16 => assumption); (case hx_z16 => first | assumption | omega); (case hk0_z16 => first | assumption | omega); (case hk1_z16 => first | assumption | omega); (case hm0_z16 => first | assumption | decide | omega); (case hm1_z16 => first | assumption | decide | omega); (case hl0_z16 => assumption); (case hl1_z16 => assumption); k_whole; intro d_z16 td_z16 x'_z16 tx'_z16 k'_z16 tk'_z16 n'_z16 h'_z16 tk₁_z16 F'_z16 N'_z16 hd0_z16 hd1_z16 hx'_z16 hk0'_z16 hk1'_z16; (try k_sweep)))
  (k_with "call ref" => (k_here; (with_reducible show wpAny _ _ (call (Value.ref 63) [Value.ref _, Value.int _ _]) _ _ _); (with_unfolding_all refine' draw_use ?hh_z17 ?hdp_z17 ?F_z17 ?X_z17 ?T_z17 ?N_z17 ?U_z17 ?hc_z17 ?hi_z17 ?hne_z17 ?hx_z17 ?hk0_z17 ?hk1_z17 ?hm0_z17 ?hm1_z17 ?hl0_z17 ?hl1_z17 ?_); (case hh_z17 => exact rfl); (case hdp_z17 => ((try simp only [depth_under_make, depth_under_kw, depth_in1, depth_deeper]); (try dsimp only [Ar]); omega)); (case F_z17 => k_asm); (case X_z17 => k_asm); (case T_z17 => k_asm); (case N_z17 => k_asm); (case U_z17 => k_updF); (case hc_z17 => is_list); (case hi_z17 => assumption); (case hne_z17 => assumption); (case hx_z17 => first | assumption | omega); (case hk0_z17 => first | assumption | omega); (case hk1_z17 => first | assumption | omega); (case hm0_z17 => first | assumption | decide | omega); (case hm1_z17 => first | assumption | decide | omega); (case hl0_z17 => assumption); (case hl1_z17 => assumption); k_whole; intro d_z17 td_z17 x'_z17 tx'_z17 k'_z17 tk'_z17 n'_z17 h'_z17 tk₁_z17 F'_z17 N'_z17 hd0_z17 hd1_z17 hx'_z17 hk0'_z17 hk1'_z17; (try k_sweep)))
  (k_with "call ref" => (k_here; (with_reducible show wpAny _ _ (call (Value.ref 63) [Value.ref _, Value.int _ _]) _ _ _); (with_unfolding_all refine' draw_use ?hh_z18 ?hdp_z18 ?F_z18 ?X_z18 ?T_z18 ?N_z18 ?U_z18 ?hc_z18 ?hi_z18 ?hne_z18 ?hx_z18 ?hk0_z18 ?hk1_z18 ?hm0_z18 ?hm1_z18 ?hl0_z18 ?hl1_z18 ?_); (case hh_z18 => exact rfl); (case hdp_z18 => ((try simp only [depth_under_make, depth_under_kw, depth_in1, depth_deeper]); (try dsimp only [Ar]); omega)); (case F_z18 => k_asm); (case X_z18 => k_asm); (case T_z18 => k_asm); (case N_z18 => k_asm); (case U_z18 => k_updF); (case hc_z18 => is_list); (case hi_z18 => assumption); (case hne_z18 => assumption); (case hx_z18 => first | assumption | omega); (case hk0_z18 => first | assumption | omega); (case hk1_z18 => first | assumption | omega); (case hm0_z18 => first | assumption | decide | omega); (case hm1_z18 => first | assumption | decide | omega); (case hl0_z18 => assumption); (case hl1_z18 => assumption); k_whole; intro d_z18 td_z18 x'_z18 tx'_z18 k'_z18 tk'_z18 n'_z18 h'_z18 tk₁_z18 F'_z18 N'_z18 hd0_z18 hd1_z18 hx'_z18 hk0'_z18 hk1'_z18; (try k_sweep)))
  (k_with "call ref" => (k_here; (with_reducible show wpAny _ _ (call (Value.ref 63) [Value.ref _, Value.int _ _]) _ _ _); (with_unfolding_all refine' draw_use ?hh_z19 ?hdp_z19 ?F_z19 ?X_z19 ?T_z19 ?N_z19 ?U_z19 ?hc_z19 ?hi_z19 ?hne_z19 ?hx_z19 ?hk0_z19 ?hk1_z19 ?hm0_z19 ?hm1_z19 ?hl0_z19 ?hl1_z19 ?_); (case hh_z19 => exact rfl); (case hdp_z19 => ((try simp only [depth_under_make, depth_under_kw, depth_in1, depth_deeper]); (try dsimp only [Ar]); omega)); (case F_z19 => k_asm); (case X_z19 => k_asm); (case T_z19 => k_asm); (case N_z19 => k_asm); (case U_z19 => k_updF); (case hc_z19 => is_list); (case hi_z19 => assumption); (case hne_z19 => assumption); (case hx_z19 => first | assumption | omega); (case hk0_z19 => first | assumption | omega); (case hk1_z19 => first | assumption | omega); (case hm0_z19 => first | assumption | decide | omega); (case hm1_z19 => first | assumption | decide | omega); (case hl0_z19 => assumption); (case hl1_z19 => assumption); k_whole; intro d_z19 td_z19 x'_z19 tx'_z19 k'_z19 tk'_z19 n'_z19 h'_z19 tk₁_z19 F'_z19 N'_z19 hd0_z19 hd1_z19 hx'_z19 hk0'_z19 hk1'_z19; (try k_sweep)))
  have _hx : (PySem.Challenge.rw_nn0292_01 = PySem.Challenge.rw_nn0292_01) ∧ (Mine.hd.heap_39 = Mine.hd.heap_39) := by k_fill; exact ⟨rfl, rfl⟩
  refine' enterC [(p, listOf #[.int x tx, .int k tk, .ref c] n)] [(Str.ofString "pool", .ref p), (Str.ofString "most", .int most tm)] hk₀ X₀ T₀ (by simp [hp, hp0]) ?k6 ?k7 ?k8 ?k9 ?kB ?kD ?_ ?c2 ?c3 ?c4
  case k6 => k_is
  case k7 => k_is
  case k8 => (show dp < recursionLimit; omega)
  case k9 => exact BindsTo.of_eq rfl
  case kB => exact rfl
  case kD => decide +kernel
  case c2 => exact rfl
  case c3 => exact rfl
  case c4 => exact rfl
  intro g L' h₁ tk₀ cells' G F N Y X T l1
  k_lt l1
  obtain ⟨o1, o2, hE, d1, d2⟩ := CellsAre.two Y
  subst hE
  clear Y
  replace d1 : o1.data = .cell (some (.int most tm)) := d1
  replace d2 : o2.data = .cell (some (.ref p)) := d2
  try simp only [List.cons_append, List.nil_append] at N
  try dsimp only
  try k_fold
  have hcg : g.IsList c cells.toArray := by
    obtain ⟨o, ho, r⟩ := hc
    exact ⟨o, G _ _ ho (by simpa using hne), r⟩
  replace G : ∀ b o, s.heap.get? b = some o → b ∉ [p] → g.get? b = some o := G
  clear hk₀ X₀ T₀ hp hp0 hc
  k_steps
  all_goals (
    refine h _ _ _ _ _ _ _ _ (back G (by assumption)) (News.get (by assumption) (by k_mem)) ?_ (by omega) (by omega) (by omega)
    first
      | with_reducible refine ⟨_, RowAt.set (fresh_of G (by assumption) (by kcf_m) ?_)⟩
      | with_reducible refine ⟨_, RowAt.jump (fresh_of G (by assumption) (by kcf_m) ?_)⟩
      | with_reducible refine ⟨_, RowAt.unls (fresh_of G (by assumption) (by kcf_m) ?_)⟩
      | with_reducible refine ⟨_, RowAt.mtch (fresh_of G (by assumption) (by kcf_m) ?_)⟩
      | with_reducible refine ⟨_, RowAt.again (fresh_of G (by assumption) (by kcf_m) ?_)⟩
      | with_reducible refine ⟨_, RowAt.enter (fresh_of G (by assumption) (by kcf_m) ?_)⟩
      | with_reducible refine ⟨_, RowAt.leave (fresh_of G (by assumption) (by kcf_m) ?_)⟩
      | with_reducible refine ⟨_, RowAt.ende (fresh_of G (by assumption) (by kcf_m) ?_)⟩
      | with_reducible refine ⟨_, RowAt.ret (fresh_of G (by assumption) (by kcf_m) ?_)⟩
      | with_reducible refine ⟨_, RowAt.join (fresh_of G (by assumption) (by kcf_m) ?_)⟩
      | with_reducible refine ⟨_, RowAt.fork (fresh_of G (by assumption) (by kcf_m) ?_) (fresh_of G (by assumption) (by kcf_m) ?_) (by assumption) ?_⟩)
  all_goals first
    | (intro e; have e' : @Eq Nat _ _ := List.mem_singleton.mp e; omega)
    | omega
    | exact off_p (by assumption) (by kcf_m) (by kcf_m) (show Value.type "tuple" ≠ Value.type "list" by decide)
end
open PySem PySem.W PySem.Calls PyProof.Rows
set_option Elab.async false
set_option maxRecDepth 100000
set_option maxHeartbeats 2000000
section
section
variable {prog : Program} {w : World} {A : Around} {E : Value → Shared → Prop} {s : Shared} {h₀ : Heap} {L : Addr} {m : Str → Option Value} {news : List (Addr × Obj)}

theorem adjust_last (n : Nat) (h : 1 ≤ n) : Builtin.Slice.sliceAdjust none (some (-1)) 1 (n : Int) = (0, (n : Int) - 1) := by
  unfold Builtin.Slice.sliceAdjust
  have h1 : ¬ ((1 : Int) < 0) := by omega
  have h2 : ((-1 : Int) < 0) := by omega
  simp only [h1, h2, if_false, if_true]
  congr 1
  omega
theorem places_last (n : Nat) (h : 1 ≤ n) : Builtin.Slice.slicePlaces 0 ((n : Int) - 1) 1 = n - 1 := by
  unfold Builtin.Slice.slicePlaces
  have h1 : (1 : Int) > 0 := by omega
  simp only [h1, if_true, Int.ediv_one]
  split <;> omega

theorem sliceApplied_last {sl : Addr} {n : Nat} {u : Tok} {Q : Int × Int × Nat → Shared → Prop} (hs : s.heap.IsSliceOf sl .none (.int (-1) u) .none) (hn : 1 ≤ n) (h : Q (0, 1, n - 1) s) :
    wpAny (model prog w) A (Builtin.Slice.sliceApplied (.ref sl) (pure (n : Int))) Q E s := by
  obtain ⟨os, hos, hcs, hds⟩ := id hs
  unfold Builtin.Slice.sliceApplied Builtin.Slice.sliceFields
  refine wpAny_bind (wpAny_bind (wpAny_field hos hds (x := .none) rfl (wpAny_bind (wpAny_field hos hds (x := .int (-1) u) rfl (wpAny_bind (wpAny_field hos hds (x := .none) rfl (wpAny_pure ?_)))))))
  refine wpAny_bind (slicePart_none ?_)
  show wpAny _ _ (if ((1 : Int) == 0) = true then _ else _) _ _ s
  rw [if_neg (by decide)]
  refine wpAny_bind (slicePart_none (wpAny_bind (slicePart_int (wpAny_bind (wpAny_pure ?_)))))
  show wpAny _ _ (match Builtin.Slice.sliceAdjust none (some (-1)) 1 (n : Int) with | (lo, hi) => pure (lo, (1 : Int), Builtin.Slice.slicePlaces lo hi 1)) _ _ s
  rw [adjust_last n hn]
  show wpAny _ _ (pure ((0 : Int), (1 : Int), Builtin.Slice.slicePlaces 0 ((n : Int) - 1) 1)) _ _ s
  rw [places_last n hn]
  exact wpAny_pure h

theorem pick_last (xs : List Value) : ((List.range (xs.toArray.size - 1)).filterMap fun (k : Nat) => xs.toArray[((0 : Int) + (k : Int) * 1).toNat]?).toArray = xs.dropLast.toArray := by
  congr 1
  apply List.ext_getElem?
  intro i
  have e : (fun (k : Nat) => xs.toArray[((0 : Int) + (k : Int) * 1).toNat]?) = fun k => xs[k]? := by
    funext k
    have : ((0 : Int) + (k : Int) * 1).toNat = k := by omega
    rw [this]; simp
  rw [e]
  have e2 : ∀ n, n ≤ xs.length → (List.range n).filterMap (fun k => xs[k]?) = xs.take n := by
    intro n
    induction n with
    | zero => intro _; simp
    | succ n ih =>
      intro hn
      rw [List.range_succ, List.filterMap_append, ih (by omega), List.take_add_one]
      have : n < xs.length := by omega
      simp [List.getElem?_eq_getElem this]
  rw [List.size_toArray, e2 _ (by omega), List.dropLast_eq_take]

theorem getItem_tuple_last {t sl : Addr} {xs : List Value} {u : Tok} {Q : Value → Shared → Prop} (ht : IsTup s.heap t xs.toArray) (hs : s.heap.IsSliceOf sl .none (.int (-1) u) .none) (h1 : 1 ≤ xs.length)
    (h : Q (.ref s.heap.objs.size) { s with heap := s.heap.push { cls := .type "tuple", data := .seq xs.dropLast.toArray } })
    (hsz : xs.length ≤ sizeLine) : wpAny (model prog w) A (getItem (.ref t) (.ref sl)) Q E s := by
  have hdrop : sizeOk (.seq xs.dropLast.toArray) := by
    show xs.dropLast.toArray.size ≤ sizeLine
    rw [List.size_toArray, List.length_dropLast]
    omega
  obtain ⟨os, hos, hcs, hds⟩ := id hs
  have hTs : s.TypeIs (.ref sl) "slice" := ⟨os, hos, hcs⟩
  unfold getItem
  try with_reducible refine wpAny_holding ?_
  first | refine wpAny_bind (wpAny_pure ?_) | skip
  refine wpAny_bind (wpAny_sequenceKey ht.typeIs (by decide) ?_)
  refine wpAny_bind (wpAny_callSpecial?_slot (name := Str.ofString "__getitem__") ht.typeIs slot_tuple_getitem
    (wpAny_call_entry slot_tuple_getitem ht.typeIs entry_tuple_getitem ?_ (args_tuple_getitem _ _)))
  show wpAny _ _ (Builtin.Tuple.tupleItemsOf (.ref t) >>= _) _ _ s
  refine wpAny_bind (tupleItemsOf_ ht ?_)
  refine wpAny_bind (wpAny_typeOf hTs ?_)
  rw [if_pos (by decide)]
  refine wpAny_bind (sliceApplied_last hs (by rw [List.size_toArray]; exact h1) ?_)
  have hno : ¬ (((0 : Int) == 0 && (1 : Int) == 1 && (xs.toArray.size - 1) == xs.toArray.size) = true) := by
    rw [List.size_toArray]
    simp
    omega
  show wpAny _ _ (if ((0 : Int) == 0 && (1 : Int) == 1 && (xs.toArray.size - 1) == xs.toArray.size) = true then _ else _) _ _ s
  rw [if_neg hno, pick_last]
  first
    | exact wpAny_bind (m := Builtin.Tuple.tupleExact _) (wpAny_newObj_type (wpAny_pure ⟨_, rfl, wpAny_pure h⟩) hdrop)
    | exact wpAny_bind (m := Builtin.Tuple.tupleExact _) (wpAny_newObj_type (wpAny_bind (wpAny_pure (wpAny_pure ⟨_, rfl, wpAny_pure h⟩))) hdrop)
    | exact wpAny_bind (wpAny_bind (m := Builtin.Tuple.tupleExact _) (wpAny_newObj_type (wpAny_pure (wpAny_pure ⟨_, rfl, wpAny_pure h⟩)) hdrop))
    | exact wpAny_bind (wpAny_bind (m := Builtin.Tuple.tupleExact _) (wpAny_newObj_type (wpAny_pure ⟨_, rfl, wpAny_pure h⟩) hdrop))

theorem slice_tuple_last {value slice : Expr} {t : Addr} {xs : List Value} {u : Tok} {Q : Value → Shared → Prop}
    (F : Fr h₀ L s.heap m) (N : News h₀ L s.heap news) (ht : IsTup s.heap t xs.toArray) (h1 : 1 ≤ xs.length)
    (h : ∀ d h', Fr h₀ L h' m → News h₀ L h' ((d, { cls := .type "tuple", data := .seq xs.dropLast.toArray }) :: news) → (∀ p ∈ news, p.1 < d) → s.heap.objs.size ≤ d → Q (.ref d) { s with heap := h' })
    (hs : subscripted slice false (.ref t) (.ref s.heap.objs.size) = operate [.ref s.heap.objs.size, .ref t] (getItem (.ref t) (.ref s.heap.objs.size)))
    (hg : ∀ r, letTemporaryGo value (.ref t) r = pure ())
    (hsz : xs.length ≤ sizeLine) :
    wpAny (model prog w) A (subscriptTail value slice (.ref t) (.ref s.heap.objs.size)) Q E { s with heap := s.heap.push { cls := .type "slice", data := .fields #[.none, .int (-1) u, .none] } } := by
  have ht' : IsTup (s.heap.push { cls := .type "slice", data := .fields #[.none, .int (-1) u, .none] }) t xs.toArray := ht.keeps fun _ _ e => Heap.get?_push_of_some _ e
  refine subscriptTail_ops (s := { s with heap := s.heap.push { cls := .type "slice", data := .fields #[.none, .int (-1) u, .none] } }) ht'.typeIs slot_tuple_getitem.lookup
    (getItem_tuple_last ht' (Heap.IsSliceOf.new ..) h1 ?_ hsz) hs hg
  have N1 := News.push (F.push { cls := .type "slice", data := .fields #[.none, .int (-1) u, .none] }) (N.grown fun _ _ e => Heap.get?_push_of_some _ e) { cls := .type "tuple", data := .seq xs.dropLast.toArray }
  rw [Heap.size_push] at N1
  show Q (.ref (s.heap.push _).objs.size) _
  rw [Heap.size_push]
  exact h _ _ ((F.push _).push _) N1 (fun p hp => Nat.lt_succ_of_lt (Heap.lt_size (N p hp).1)) (Nat.le_succ _)

theorem tup_last {value slice : Expr} {t : Addr} {xs : List Value} {x : Value} {u : Tok} {Q : Value → Shared → Prop} (ht : IsTup s.heap t (xs ++ [x]).toArray) (hz : xs.length ≤ 100000) (h : Q x s)
    (hs : subscripted slice false (.ref t) (.int (-1) u) = operate [.ref t, .int (-1) u] (getItem (.ref t) (.int (-1) u))) (hg : ∀ r, letTemporaryGo value (.ref t) r = pure ()) :
    wpAny (model prog w) A (subscriptTail value slice (.ref t) (.int (-1) u)) Q E s := by
  refine item_tupleL (j := xs.length) (x := x) ht (by omega) (by omega) ?_ (by simp) h hs hg
  unfold seqIndex?
  rw [List.length_append, List.length_singleton]
  simp
  omega
theorem intsAre_concat {us : List Value} {sc : List Int} {c : Int} (h : IntsAre us (sc ++ [c])) : ∃ us' t, us = us' ++ [.int c t] ∧ IntsAre us' sc := by
  induction sc generalizing us with
  | nil =>
    cases h with
    | cons n t h => cases h; exact ⟨[], t, rfl, .nil⟩
  | cons d sc ih =>
    cases h with
    | cons n t h =>
      obtain ⟨us', t', rfl, h'⟩ := ih h
      exact ⟨.int d t :: us', t', rfl, .cons _ _ h'⟩
end
end
open PySem PySem.W PySem.Calls PyProof.Rows
set_option Elab.async false
set_option maxRecDepth 100000
set_option maxHeartbeats 2000000
section
def Row.falls : Row → Bool
  | .jump _ | .ende | .ret => false
  | _ => true
def Row.targets : Row → List Int
  | .jump t | .unls t | .mtch t | .again t | .enter _ t => [t]
  | .fork ts => ts
  | _ => []

abbrev At (h : Heap) : Addr → Obj → Prop := fun a o => h.get? a = some o
theorem RowAt.mono {S S' : Addr → Obj → Prop} {v : Value} {r : Row} (h : RowAt S v r) (k : ∀ a o, o.cls = .type "tuple" → S a o → S' a o) : RowAt S' v r := by
  cases h with
  | set a => exact .set (k _ _ rfl a)
  | jump a => exact .jump (k _ _ rfl a)
  | unls a => exact .unls (k _ _ rfl a)
  | mtch a => exact .mtch (k _ _ rfl a)
  | again a => exact .again (k _ _ rfl a)
  | enter a => exact .enter (k _ _ rfl a)
  | leave a => exact .leave (k _ _ rfl a)
  | fork a b c d => exact .fork (k _ _ rfl a) (k _ _ rfl b) c d
  | ende a => exact .ende (k _ _ rfl a)
  | ret a => exact .ret (k _ _ rfl a)
  | join a => exact .join (k _ _ rfl a)

theorem isTup_of {h : Heap} {a : Addr} {vs : List Value} (e : h.get? a = some (tupOf vs)) : IsTup h a vs.toArray := ⟨_, e, rfl, _, rfl⟩

theorem falls_core {w : World} {mean : ExcName → Option Value} {mg mb : Str → Option Value} {dp un : Nat} {fr : Option (List Env)} {gd : Option (List Code)} {s : Shared} {h₀ : Heap}
    {v : Value} {row : Row} {Q : Value → Shared → Prop}
    (hdp : dp + 5 < recursionLimit)
    (hk₀ : ∀ b o, h₀.get? b = some o → s.heap.get? b = some o) (X₀ : (hd.heap_39 w.params).In h₀) (T₀ : Top hd.view_39 (looseW hd.view_39 []) mean mg mb h₀)
    (hr : RowAt (At s.heap) v row)
    (h : ∀ h' tk₁, Ret s [] { s with heap := h', toks := tk₁ } → Q (.bool row.falls) { s with heap := h', toks := tk₁ }) :
    wpAny (model PySem.Challenge.rw_nn0292_01.row.prog w) (Ar dp un fr gd) (call (.ref 28) [v]) Q (fun _ _ => False) s := by
  w_top off
  k_with_none
  have _hx : (PySem.Challenge.rw_nn0292_01 = PySem.Challenge.rw_nn0292_01) ∧ (Mine.hd.heap_39 = Mine.hd.heap_39) := by k_fill; exact ⟨rfl, rfl⟩
  refine' enter [] [(Str.ofString "row", v)] hk₀ X₀ T₀ (by simp) ?k6 ?k7 ?k8 ?k9 ?kB ?_ ?c2 ?c3 ?c4 ?c5
  case k6 => k_is
  case k7 => k_is
  case k8 => (show dp < recursionLimit; omega)
  case k9 => exact BindsTo.of_eq rfl
  case c5 => decide
  case kB => exact locs rfl
  case c2 => exact rfl
  case c3 => exact rfl
  case c4 => exact rfl
  intro g L' h₁ tk₀ G F N X T
  try dsimp only
  k_fold
  replace G : ∀ b o, s.heap.get? b = some o → b ∉ [] → g.get? b = some o := G
  have hr' : RowAt (At g) v row := hr.mono fun a o _ e => G a o e (by simp)
  clear hk₀ X₀ T₀ hr
  cases hr' with
  | fork e e2 hi hl =>
    have ht := isTup_of e
    k_steps
    all_goals exact h _ _ (back G (by assumption))
  | _ e =>
    have ht := isTup_of e
    k_steps
    all_goals exact h _ _ (back G (by assumption))

theorem targets_core {w : World} {mean : ExcName → Option Value} {mg mb : Str → Option Value} {dp un : Nat} {fr : Option (List Env)} {gd : Option (List Code)} {s : Shared} {h₀ : Heap}
    {v : Value} {row : Row} {S : Addr → Obj → Prop} {Q : Value → Shared → Prop}
    (hdp : dp + 5 < recursionLimit)
    (hk₀ : ∀ b o, h₀.get? b = some o → s.heap.get? b = some o) (X₀ : (hd.heap_39 w.params).In h₀) (T₀ : Top hd.view_39 (looseW hd.view_39 []) mean mg mb h₀)
    (hS : ∀ a o, S a o → s.heap.get? a = some o) (hr : RowAt S v row)
    (h : ∀ r vs h' tk₁, Ret s [] { s with heap := h', toks := tk₁ } → h'.get? r = some (tupOf vs) → IntsAre vs row.targets → (s.heap.get? r = none ∨ S r (tupOf vs)) → Q (.ref r) { s with heap := h', toks := tk₁ }) :
    wpAny (model PySem.Challenge.rw_nn0292_01.row.prog w) (Ar dp un fr gd) (call (.ref 21) [v]) Q (fun _ _ => False) s := by
  w_top off
  k_with_none
  have _hx : (PySem.Challenge.rw_nn0292_01 = PySem.Challenge.rw_nn0292_01) ∧ (Mine.hd.heap_39 = Mine.hd.heap_39) := by k_fill; exact ⟨rfl, rfl⟩
  refine' enter [] [(Str.ofString "row", v)] hk₀ X₀ T₀ (by simp) ?k6 ?k7 ?k8 ?k9 ?kB ?_ ?c2 ?c3 ?c4 ?c5
  case k6 => k_is
  case k7 => k_is
  case k8 => (show dp < recursionLimit; omega)
  case k9 => exact BindsTo.of_eq rfl
  case c5 => decide
  case kB => exact locs rfl
  case c2 => exact rfl
  case c3 => exact rfl
  case c4 => exact rfl
  intro g L' h₁ tk₀ G F N X T
  try dsimp only
  k_fold
  replace G : ∀ b o, s.heap.get? b = some o → b ∉ [] → g.get? b = some o := G
  clear hk₀ X₀ T₀
  cases hr with
  | fork e e2 hi hl =>
    have ht := isTup_of (G _ _ (hS _ _ e) (by simp))
    have e3 := G _ _ (hS _ _ e2) (by simp)
    k_steps
    all_goals (show Q _ _; exact h _ _ _ _ (back G (by assumption)) (Fr.keep (by assumption) _ _ e3) hi (.inr e2))
  | _ e =>
    have ht := isTup_of (G _ _ (hS _ _ e) (by simp))
    k_steps
    all_goals (show Q _ _; (have hN := fresh_of G (by assumption) List.mem_cons_self (by simp)); first
      | exact h _ _ _ _ (back G (by assumption)) hN.1 (.cons _ _ .nil) (.inl hN.2)
      | exact h _ _ _ _ (back G (by assumption)) hN.1 .nil (.inl hN.2))

theorem named_core {w : World} {mean : ExcName → Option Value} {mg mb : Str → Option Value} {dp un : Nat} {fr : Option (List Env)} {gd : Option (List Code)} {s : Shared} {h₀ : Heap}
    {v : Value} {row : Row} {Q : Value → Shared → Prop}
    (hdp : dp + 5 < recursionLimit)
    (hk₀ : ∀ b o, h₀.get? b = some o → s.heap.get? b = some o) (X₀ : (hd.heap_39 w.params).In h₀) (T₀ : Top hd.view_39 (looseW hd.view_39 []) mean mg mb h₀)
    (hr : RowAt (At s.heap) v row)
    (h : ∀ r vs n h' tk₁, Ret s [] { s with heap := h', toks := tk₁ } → h'.get? r = some (listOf vs.toArray n) → IntsAre vs row.targets → s.heap.get? r = none → Q (.ref r) { s with heap := h', toks := tk₁ }) :
    wpAny (model PySem.Challenge.rw_nn0292_01.row.prog w) (Ar dp un fr gd) (call (.ref 75) [v]) Q (fun _ _ => False) s := by
  w_top off
  k_with_none
  (k_with "subscriptTail" => (k_here; (with_reducible show wpAny _ _ (subscriptTail _ _ (Value.ref _) (Value.int (_ - 1) _)) _ _ _); k_dflt (refine' item_tupleL (Fr.tup (by assumption) (by assumption)) ?a1_z20 ?a2_z20 ?a3_z20 ?a4_z20 ?_ ?hs_z20 ?hg_z20); (case a1_z20 => (simp only [List.size_toArray, List.length_cons, List.length_nil]; omega)); (case a2_z20 => (simp only [List.size_toArray, List.length_cons, List.length_nil]; omega)); (case a3_z20 => rfl); (case a4_z20 => rfl); (case hs_z20 => with_unfolding_all rfl); (case hg_z20 => (intro _; with_unfolding_all rfl)); k_whole))
  (k_with "subscriptTail" => (k_here; (with_reducible show wpAny _ _ (subscriptTail _ _ (Value.ref _) (Value.int (_ - 1) _)) _ _ _); k_dflt (refine' item_tupleL (Fr.tup (by assumption) (by assumption)) ?a1_z21 ?a2_z21 ?a3_z21 ?a4_z21 ?_ ?hs_z21 ?hg_z21); (case a1_z21 => (simp only [List.size_toArray, List.length_cons, List.length_nil]; omega)); (case a2_z21 => (simp only [List.size_toArray, List.length_cons, List.length_nil]; omega)); (case a3_z21 => rfl); (case a4_z21 => rfl); (case hs_z21 => with_unfolding_all rfl); (case hg_z21 => (intro _; with_unfolding_all rfl)); k_whole))
  (k_with "subscriptTail" => (k_here; (with_reducible show wpAny _ _ (subscriptTail _ _ (Value.ref _) (Value.int (_ - 1) _)) _ _ _); k_dflt (refine' item_tupleL (Fr.tup (by assumption) (by assumption)) ?a1_z22 ?a2_z22 ?a3_z22 ?a4_z22 ?_ ?hs_z22 ?hg_z22); (case a1_z22 => (simp only [List.size_toArray, List.length_cons, List.length_nil]; omega)); (case a2_z22 => (simp only [List.size_toArray, List.length_cons, List.length_nil]; omega)); (case a3_z22 => rfl); (case a4_z22 => rfl); (case hs_z22 => with_unfolding_all rfl); (case hg_z22 => (intro _; with_unfolding_all rfl)); k_whole))
  (k_with "subscriptTail" => (k_here; (with_reducible show wpAny _ _ (subscriptTail _ _ (Value.ref _) (Value.int (_ - 1) _)) _ _ _); k_dflt (refine' item_tupleL (Fr.tup (by assumption) (by assumption)) ?a1_z23 ?a2_z23 ?a3_z23 ?a4_z23 ?_ ?hs_z23 ?hg_z23); (case a1_z23 => (simp only [List.size_toArray, List.length_cons, List.length_nil]; omega)); (case a2_z23 => (simp only [List.size_toArray, List.length_cons, List.length_nil]; omega)); (case a3_z23 => rfl); (case a4_z23 => rfl); (case hs_z23 => with_unfolding_all rfl); (case hg_z23 => (intro _; with_unfolding_all rfl)); k_whole))
  (k_with "subscriptTail" => (k_here; (with_reducible show wpAny _ _ (subscriptTail _ _ (Value.ref _) (Value.int (_ - 1) _)) _ _ _); k_dflt (refine' item_tupleL (Fr.tup (by assumption) (by assumption)) ?a1_z24 ?a2_z24 ?a3_z24 ?a4_z24 ?_ ?hs_z24 ?hg_z24); (case a1_z24 => (simp only [List.size_toArray, List.length_cons, List.length_nil]; omega)); (case a2_z24 => (simp only [List.size_toArray, List.length_cons, List.length_nil]; omega)); (case a3_z24 => rfl); (case a4_z24 => rfl); (case hs_z24 => with_unfolding_all rfl); (case hg_z24 => (intro _; with_unfolding_all rfl)); k_whole))
  (k_with "subscriptTail" => (k_here; (with_reducible show wpAny _ _ (subscriptTail _ _ (Value.ref _) (Value.int (_ - 1) _)) _ _ _); k_dflt (refine' item_tupleL (Fr.tup (by assumption) (by assumption)) ?a1_z25 ?a2_z25 ?a3_z25 ?a4_z25 ?_ ?hs_z25 ?hg_z25); (case a1_z25 => (simp only [List.size_toArray, List.length_cons, List.length_nil]; omega)); (case a2_z25 => (simp only [List.size_toArray, List.length_cons, List.length_nil]; omega)); (case a3_z25 => rfl); (case a4_z25 => rfl); (case hs_z25 => with_unfolding_all rfl); (case hg_z25 => (intro _; with_unfolding_all rfl)); k_whole))
  (k_with "subscriptTail" => (k_here; (with_reducible show wpAny _ _ (subscriptTail _ _ (Value.ref _) (Value.int (_ - 1) _)) _ _ _); k_dflt (refine' item_tupleL (Fr.tup (by assumption) (by assumption)) ?a1_z26 ?a2_z26 ?a3_z26 ?a4_z26 ?_ ?hs_z26 ?hg_z26); (case a1_z26 => (simp only [List.size_toArray, List.length_cons, List.length_nil]; omega)); (case a2_z26 => (simp only [List.size_toArray, List.length_cons, List.length_nil]; omega)); (case a3_z26 => rfl); (case a4_z26 => rfl); (case hs_z26 => with_unfolding_all rfl); (case hg_z26 => (intro _; with_unfolding_all rfl)); k_whole))
  (k_with "subscriptTail" => (k_here; (with_reducible show wpAny _ _ (subscriptTail _ _ (Value.ref _) (Value.int (_ - 1) _)) _ _ _); k_dflt (refine' item_tupleL (Fr.tup (by assumption) (by assumption)) ?a1_z27 ?a2_z27 ?a3_z27 ?a4_z27 ?_ ?hs_z27 ?hg_z27); (case a1_z27 => (simp only [List.size_toArray, List.length_cons, List.length_nil]; omega)); (case a2_z27 => (simp only [List.size_toArray, List.length_cons, List.length_nil]; omega)); (case a3_z27 => rfl); (case a4_z27 => rfl); (case hs_z27 => with_unfolding_all rfl); (case hg_z27 => (intro _; with_unfolding_all rfl)); k_whole))
  have _hx : (PySem.Challenge.rw_nn0292_01 = PySem.Challenge.rw_nn0292_01) ∧ (Mine.hd.heap_39 = Mine.hd.heap_39) := by k_fill; exact ⟨rfl, rfl⟩
  refine' enter [] [(Str.ofString "row", v)] hk₀ X₀ T₀ (by simp) ?k6 ?k7 ?k8 ?k9 ?kB ?_ ?c2 ?c3 ?c4 ?c5
  case k6 => k_is
  case k7 => k_is
  case k8 => (show dp < recursionLimit; omega)
  case k9 => exact BindsTo.of_eq rfl
  case c5 => decide
  case kB => exact locs rfl
  case c2 => exact rfl
  case c3 => exact rfl
  case c4 => exact rfl
  intro g L' h₁ tk₀ G F N X T
  try dsimp only
  k_fold
  replace G : ∀ b o, s.heap.get? b = some o → b ∉ [] → g.get? b = some o := G
  have hr' : RowAt (At g) v row := hr.mono fun a o _ e => G a o e (by simp)
  clear hk₀ X₀ T₀ hr
  cases hr' with
  | fork e e2 hi hl =>
    have ht := isTup_of e
    have ht2 := isTup_of e2
    k_steps
    all_goals (show Q _ _; (have hN := fresh_of G (by assumption) List.mem_cons_self (by simp)); exact h _ _ _ _ _ (back G (by assumption)) hN.1 hi hN.2)
  | _ e =>
    have ht := isTup_of e
    k_steps
    all_goals (show Q _ _; (have hN := fresh_of G (by assumption) List.mem_cons_self (by simp)); first
      | exact h _ _ _ _ _ (back G (by assumption)) hN.1 (.cons _ _ .nil) hN.2
      | exact h _ _ _ _ _ (back G (by assumption)) hN.1 .nil hN.2)
end
open PySem PySem.W PySem.Calls PyProof.Rows
set_option Elab.async false
set_option maxRecDepth 100000
set_option maxHeartbeats 2000000
section


def behind : Row → List Int → Option (List Int)
  | .enter c _, sc => some (sc ++ [c])
  | .leave c, sc => if sc.getLast? = some c then some sc.dropLast else none
  | _, sc => some sc

theorem behind_core {w : World} {mean : ExcName → Option Value} {mg mb : Str → Option Value} {dp un : Nat} {fr : Option (List Env)} {gd : Option (List Code)} {s : Shared} {h₀ : Heap}
    {v : Value} {row : Row} {o : Addr} {us : List Value} {sc : List Int} {Q : Value → Shared → Prop}
    (hdp : dp + 5 < recursionLimit)
    (hk₀ : ∀ b o, h₀.get? b = some o → s.heap.get? b = some o) (X₀ : (hd.heap_39 w.params).In h₀) (T₀ : Top hd.view_39 (looseW hd.view_39 []) mean mg mb h₀)
    (hr : RowAt (At s.heap) v row) (ho : s.heap.get? o = some (tupOf us)) (hsc : IntsAre us sc) (hln : us.length ≤ 1000)
    (h : ∀ r h' tk₁, Ret s [] { s with heap := h', toks := tk₁ } → (match behind row sc with
      | none => r = .none
      | some sc' => ∃ a us', r = .ref a ∧ h'.get? a = some (tupOf us') ∧ IntsAre us' sc' ∧ (s.heap.get? a = none ∨ (a = o ∧ us' = us))) → Q r { s with heap := h', toks := tk₁ }) :
    wpAny (model PySem.Challenge.rw_nn0292_01.row.prog w) (Ar dp un fr gd) (call (.ref 35) [v, .ref o]) Q (fun _ _ => False) s := by
  w_top off
  k_with_none
  (k_with "call builtin:len" => (k_here; (with_reducible show wpAny _ _ (call (Value.builtin "len") [Value.ref _]) _ _ _); k_dflt (refine' len_tuple (Fr.tup (by assumption) (by assumption)) ?hf_z28 ?_); (case hf_z28 => (simp only [List.size_toArray, List.length_append, List.length_singleton]; omega)); (try simp only [List.size_toArray, List.length_append, List.length_singleton])))
  (k_with "call builtin:len" => (k_here; (with_reducible show wpAny _ _ (call (Value.builtin "len") [Value.ref _]) _ _ _); k_dflt (refine' len_tuple (Fr.tup (by assumption) (by assumption)) ?hf_z29 ?_); (case hf_z29 => (simp only [List.size_toArray, List.length_append, List.length_singleton]; omega)); (try simp only [List.size_toArray, List.length_append, List.length_singleton])))
  (k_with "call builtin:len" => (k_here; (with_reducible show wpAny _ _ (call (Value.builtin "len") [Value.ref _]) _ _ _); k_dflt (refine' len_tuple (Fr.tup (by assumption) (by assumption)) ?hf_z30 ?_); (case hf_z30 => (simp only [List.size_toArray, List.length_append, List.length_singleton]; omega)); (try simp only [List.size_toArray, List.length_append, List.length_singleton])))
  (k_with "call builtin:len" => (k_here; (with_reducible show wpAny _ _ (call (Value.builtin "len") [Value.ref _]) _ _ _); k_dflt (refine' len_tuple (Fr.tup (by assumption) (by assumption)) ?hf_z31 ?_); (case hf_z31 => (simp only [List.size_toArray, List.length_append, List.length_singleton]; omega)); (try simp only [List.size_toArray, List.length_append, List.length_singleton])))
  (k_with "call builtin:len" => (k_here; (with_reducible show wpAny _ _ (call (Value.builtin "len") [Value.ref _]) _ _ _); k_dflt (refine' len_tuple (Fr.tup (by assumption) (by assumption)) ?hf_z32 ?_); (case hf_z32 => (simp only [List.size_toArray, List.length_append, List.length_singleton]; omega)); (try simp only [List.size_toArray, List.length_append, List.length_singleton])))
  (k_with "call builtin:len" => (k_here; (with_reducible show wpAny _ _ (call (Value.builtin "len") [Value.ref _]) _ _ _); k_dflt (refine' len_tuple (Fr.tup (by assumption) (by assumption)) ?hf_z33 ?_); (case hf_z33 => (simp only [List.size_toArray, List.length_append, List.length_singleton]; omega)); (try simp only [List.size_toArray, List.length_append, List.length_singleton])))
  (k_with "subscriptTail" => (k_here; (with_reducible show wpAny _ _ (subscriptTail _ _ (Value.ref _) (Value.int (-1) _)) _ _ _); k_dflt (refine' tup_last (Fr.tup (by assumption) (by assumption)) ?hz_z34 ?_ ?hs_z34 ?hg_z34); (case hz_z34 => omega); (case hs_z34 => with_unfolding_all rfl); (case hg_z34 => (intro _; with_unfolding_all rfl)); k_whole))
  (k_with "subscriptTail" => (k_here; (with_reducible show wpAny _ _ (subscriptTail _ _ (Value.ref _) (Value.int (-1) _)) _ _ _); k_dflt (refine' tup_last (Fr.tup (by assumption) (by assumption)) ?hz_z35 ?_ ?hs_z35 ?hg_z35); (case hz_z35 => omega); (case hs_z35 => with_unfolding_all rfl); (case hg_z35 => (intro _; with_unfolding_all rfl)); k_whole))
  (k_with "subscriptTail" => (k_here; (with_reducible show wpAny _ _ (subscriptTail _ _ (Value.ref _) (Value.int (-1) _)) _ _ _); k_dflt (refine' tup_last (Fr.tup (by assumption) (by assumption)) ?hz_z36 ?_ ?hs_z36 ?hg_z36); (case hz_z36 => omega); (case hs_z36 => with_unfolding_all rfl); (case hg_z36 => (intro _; with_unfolding_all rfl)); k_whole))
  (k_with "subscriptTail" => (k_here; (with_reducible show wpAny _ _ (subscriptTail _ _ (Value.ref _) (Value.int (-1) _)) _ _ _); k_dflt (refine' tup_last (Fr.tup (by assumption) (by assumption)) ?hz_z37 ?_ ?hs_z37 ?hg_z37); (case hz_z37 => omega); (case hs_z37 => with_unfolding_all rfl); (case hg_z37 => (intro _; with_unfolding_all rfl)); k_whole))
  (k_with "subscriptTail" => (k_here; (with_reducible show wpAny _ _ (subscriptTail _ _ (Value.ref _) (Value.int (-1) _)) _ _ _); k_dflt (refine' tup_last (Fr.tup (by assumption) (by assumption)) ?hz_z38 ?_ ?hs_z38 ?hg_z38); (case hz_z38 => omega); (case hs_z38 => with_unfolding_all rfl); (case hg_z38 => (intro _; with_unfolding_all rfl)); k_whole))
  (k_with "subscriptTail" => (k_here; (with_reducible show wpAny _ _ (subscriptTail _ _ (Value.ref _) (Value.int (-1) _)) _ _ _); k_dflt (refine' tup_last (Fr.tup (by assumption) (by assumption)) ?hz_z39 ?_ ?hs_z39 ?hg_z39); (case hz_z39 => omega); (case hs_z39 => with_unfolding_all rfl); (case hg_z39 => (intro _; with_unfolding_all rfl)); k_whole))
  (k_with "subscriptTail" => (k_here; (with_reducible show wpAny _ _ (subscriptTail _ _ (Value.ref _) (Value.ref _)) _ _ _); k_dflt (refine' slice_tuple_last ?F_z40 ?N_z40 ?ht_z40 ?h1_z40 ?_ ?hs_z40 ?hg_z40 ?hz_z40); (case F_z40 => assumption); (case N_z40 => assumption); (case ht_z40 => exact Fr.tup (by assumption) (by assumption)); (case h1_z40 => (simp only [List.length_append, List.length_singleton]; omega)); (case hz_z40 => (rw [PySem.sizeLine_eq]; simp only [List.length_append, List.length_singleton]; omega)); (case hs_z40 => with_unfolding_all rfl); (case hg_z40 => (intro _; with_unfolding_all rfl)); intro d_z40 h'_z40 F'_z40 N'_z40 l1_z40 l2_z40))
  (k_with "subscriptTail" => (k_here; (with_reducible show wpAny _ _ (subscriptTail _ _ (Value.ref _) (Value.ref _)) _ _ _); k_dflt (refine' slice_tuple_last ?F_z41 ?N_z41 ?ht_z41 ?h1_z41 ?_ ?hs_z41 ?hg_z41 ?hz_z41); (case F_z41 => assumption); (case N_z41 => assumption); (case ht_z41 => exact Fr.tup (by assumption) (by assumption)); (case h1_z41 => (simp only [List.length_append, List.length_singleton]; omega)); (case hz_z41 => (rw [PySem.sizeLine_eq]; simp only [List.length_append, List.length_singleton]; omega)); (case hs_z41 => with_unfolding_all rfl); (case hg_z41 => (intro _; with_unfolding_all rfl)); intro d_z41 h'_z41 F'_z41 N'_z41 l1_z41 l2_z41))
  (k_with "subscriptTail" => (k_here; (with_reducible show wpAny _ _ (subscriptTail _ _ (Value.ref _) (Value.ref _)) _ _ _); k_dflt (refine' slice_tuple_last ?F_z42 ?N_z42 ?ht_z42 ?h1_z42 ?_ ?hs_z42 ?hg_z42 ?hz_z42); (case F_z42 => assumption); (case N_z42 => assumption); (case ht_z42 => exact Fr.tup (by assumption) (by assumption)); (case h1_z42 => (simp only [List.length_append, List.length_singleton]; omega)); (case hz_z42 => (rw [PySem.sizeLine_eq]; simp only [List.length_append, List.length_singleton]; omega)); (case hs_z42 => with_unfolding_all rfl); (case hg_z42 => (intro _; with_unfolding_all rfl)); intro d_z42 h'_z42 F'_z42 N'_z42 l1_z42 l2_z42))
  (k_with "subscriptTail" => (k_here; (with_reducible show wpAny _ _ (subscriptTail _ _ (Value.ref _) (Value.ref _)) _ _ _); k_dflt (refine' slice_tuple_last ?F_z43 ?N_z43 ?ht_z43 ?h1_z43 ?_ ?hs_z43 ?hg_z43 ?hz_z43); (case F_z43 => assumption); (case N_z43 => assumption); (case ht_z43 => exact Fr.tup (by assumption) (by assumption)); (case h1_z43 => (simp only [List.length_append, List.length_singleton]; omega)); (case hz_z43 => (rw [PySem.sizeLine_eq]; simp only [List.length_append, List.length_singleton]; omega)); (case hs_z43 => with_unfolding_all rfl); (case hg_z43 => (intro _; with_unfolding_all rfl)); intro d_z43 h'_z43 F'_z43 N'_z43 l1_z43 l2_z43))
  (k_with "subscriptTail" => (k_here; (with_reducible show wpAny _ _ (subscriptTail _ _ (Value.ref _) (Value.ref _)) _ _ _); k_dflt (refine' slice_tuple_last ?F_z44 ?N_z44 ?ht_z44 ?h1_z44 ?_ ?hs_z44 ?hg_z44 ?hz_z44); (case F_z44 => assumption); (case N_z44 => assumption); (case ht_z44 => exact Fr.tup (by assumption) (by assumption)); (case h1_z44 => (simp only [List.length_append, List.length_singleton]; omega)); (case hz_z44 => (rw [PySem.sizeLine_eq]; simp only [List.length_append, List.length_singleton]; omega)); (case hs_z44 => with_unfolding_all rfl); (case hg_z44 => (intro _; with_unfolding_all rfl)); intro d_z44 h'_z44 F'_z44 N'_z44 l1_z44 l2_z44))
  (k_with "subscriptTail" => (k_here; (with_reducible show wpAny _ _ (subscriptTail _ _ (Value.ref _) (Value.ref _)) _ _ _); k_dflt (refine' slice_tuple_last ?F_z45 ?N_z45 ?ht_z45 ?h1_z45 ?_ ?hs_z45 ?hg_z45 ?hz_z45); (case F_z45 => assumption); (case N_z45 => assumption); (case ht_z45 => exact Fr.tup (by assumption) (by assumption)); (case h1_z45 => (simp only [List.length_append, List.length_singleton]; omega)); (case hz_z45 => (rw [PySem.sizeLine_eq]; simp only [List.length_append, List.length_singleton]; omega)); (case hs_z45 => with_unfolding_all rfl); (case hg_z45 => (intro _; with_unfolding_all rfl)); intro d_z45 h'_z45 F'_z45 N'_z45 l1_z45 l2_z45))
  have _hx : (PySem.Challenge.rw_nn0292_01 = PySem.Challenge.rw_nn0292_01) ∧ (Mine.hd.heap_39 = Mine.hd.heap_39) := by k_fill; exact ⟨rfl, rfl⟩
  refine' enter [] [(Str.ofString "row", v), (Str.ofString "open_scopes", .ref o)] hk₀ X₀ T₀ (by simp) ?k6 ?k7 ?k8 ?k9 ?kB ?_ ?c2 ?c3 ?c4 ?c5
  case k6 => k_is
  case k7 => k_is
  case k8 => (show dp < recursionLimit; omega)
  case k9 => exact BindsTo.of_eq rfl
  case c5 => decide
  case kB => exact locs rfl
  case c2 => exact rfl
  case c3 => exact rfl
  case c4 => exact rfl
  intro g L' h₁ tk₀ G F N X T
  try dsimp only
  k_fold
  replace G : ∀ b o, s.heap.get? b = some o → b ∉ [] → g.get? b = some o := G
  have hr' : RowAt (At g) v row := hr.mono fun a o _ e => G a o e (by simp)
  have hto : IsTup g o us.toArray := isTup_of (G _ _ ho (by simp))
  clear hk₀ X₀ T₀ hr
  cases hr' with
  | fork e e2 hi hl =>
    have ht := isTup_of e
    k_steps
    all_goals (show Q _ _; exact h _ _ _ (back G (by assumption)) ⟨_, _, rfl, Fr.keep (by assumption) _ _ (G _ _ ho (by simp)), hsc, .inr ⟨rfl, rfl⟩⟩)
  | @leave a t c v e =>
    have ht := isTup_of e
    rcases List.eq_nil_or_concat sc with rfl | ⟨sc', c', rfl⟩
    · cases hsc
      k_steps
      all_goals (show Q _ _; exact h _ _ _ (back G (by assumption)) (by simp [behind]))
    · rw [List.concat_eq_append] at hsc h
      obtain ⟨us', t', rfl, hsc'⟩ := intsAre_concat hsc
      rw [List.length_append] at hln
      k_steps
      all_goals (show Q _ _)
      · exfalso; omega
      · have eb : behind (.leave c) (sc' ++ [c']) = none := by
          have hne : c' ≠ c := by assumption
          simp [behind, hne]
        rw [eb] at h
        exact h _ _ _ (back G (by assumption)) rfl
      · have hee : c' = c := by assumption
        have eb : behind (.leave c) (sc' ++ [c']) = some sc' := by simp [behind, hee]
        rw [eb] at h
        have hN := fresh_of G (by assumption) List.mem_cons_self (by simp)
        rw [List.dropLast_concat] at hN
        exact h _ _ _ (back G (by assumption)) ⟨_, _, rfl, hN.1, hsc', .inl hN.2⟩
  | @enter a t c v i u e =>
    have ht := isTup_of e
    k_steps
    all_goals (show Q _ _)
    · have e0 : sc = [] := by assumption
      subst e0
      cases hsc
      have hN := fresh_of G (by assumption) List.mem_cons_self (by simp)
      exact h _ _ _ (back G (by assumption)) ⟨_, _, rfl, hN.1, .cons _ _ .nil, .inl hN.2⟩
    · rename News _ _ _ _ => N9
      have hN := fresh_of G N9 List.mem_cons_self (by simp)
      exact h _ _ _ (back G (by assumption)) ⟨_, _, rfl, hN.1, by assumption, .inl hN.2⟩
  | _ e =>
    have ht := isTup_of e
    k_steps
    all_goals (show Q _ _; exact h _ _ _ (back G (by assumption)) ⟨_, _, rfl, Fr.keep (by assumption) _ _ (G _ _ ho (by simp)), hsc, .inr ⟨rfl, rfl⟩⟩)
end
open PySem PySem.W PySem.Calls PyProof.Rows
set_option Elab.async false
set_option maxRecDepth 100000
set_option maxHeartbeats 2000000
section
def TurnEnd (h₀ : Heap) (L I : Addr) (oI : Obj) (Jn : (Str → Option Value) → List (Addr × Obj) → Prop) (s₁ : Shared) (f : Flow) (s₂ : Shared) : Prop :=
  f = .next ∧ ∃ h' tk m' nx, s₂ = { s₁ with heap := h', toks := tk } ∧ Fr h₀ L h' m' ∧ News h₀ L h' ((I, oI) :: nx) ∧ (∀ p ∈ nx, p.1 ≠ I) ∧ Jn m' nx
theorem TurnEnd.intro {h₀ h' : Heap} {L I : Addr} {oI : Obj} {Jn : (Str → Option Value) → List (Addr × Obj) → Prop} {s₁ : Shared} {tk : Nat} {m' : Str → Option Value} (nx : List (Addr × Obj)) (F : Fr h₀ L h' m') (N : News h₀ L h' ((I, oI) :: nx)) (hI : ∀ p ∈ nx, p.1 ≠ I) (hJ : Jn m' nx) :
    TurnEnd h₀ L I oI Jn s₁ .next { s₁ with heap := h', toks := tk } := ⟨rfl, _, _, _, nx, rfl, F, N, hI, hJ⟩
section
variable {prog : Program} {w : World} {A : Around} {E : Value → Shared → Prop} {s : Shared} {h₀ : Heap} {env : Env} {m : Str → Option Value} {news : List (Addr × Obj)}

theorem for_loop {R : Result → Shared → Prop} {x : Str} {px : Pos} {body : List Stmt} {I : Addr} {fp : List Addr} {n : Nat} {P : Nat → Value → Prop} {St : Nat → Heap → Prop} {S : List (Addr × Obj) → Prop}
    (W : Walks prog w A I fp [I] n P St) (hIo : ∀ i h, St i h → ∃ o, h.get? I = some o)
    (hSt : ∀ i h h' o nx, St i h → h.get? I = some o → h'.get? I = some o → (∀ b o, h₀.get? b = some o → h'.get? b = some o) → News h₀ env.locals h' nx → S nx → St i h')
    (hx : env.kindOf x = some .local) (hp : (env.scope.kind == .class || (env.scope.kind == .module && env.locals != env.globals)) = false)
    (hst : St 0 s.heap) (F : Fr h₀ env.locals s.heap m) (N : News h₀ env.locals s.heap news) (hI₀ : h₀.get? I = none) (hIL : I ≠ env.locals) (off : ∀ p ∈ news, p.1 ≠ I) (hLf : env.locals ∉ fp)
    (J : Nat → (Str → Option Value) → List (Addr × Obj) → Prop) (h0 : J 0 m news) (hS : ∀ i m nx, J i m nx → S nx)
    (turn : ∀ i v m₁ nx h tk oI, i < n → P i v → J i m₁ nx → (∀ p ∈ nx, p.1 ≠ I) → Fr h₀ env.locals h (fun y => if y = x then some v else m₁ y) → News h₀ env.locals h ((I, oI) :: nx) →
      wpAny (model prog w) A (execs body env) (TurnEnd h₀ env.locals I oI (J (i + 1)) { s with heap := h, toks := tk }) (fun _ _ => False) { s with heap := h, toks := tk })
    (done : ∀ h' tk m' nx, Fr h₀ env.locals h' m' → News h₀ env.locals h' nx → J n m' nx → R (.ok .next) { s with heap := h', toks := tk }) :
    codeAny (model prog w) A (.forLoop (.Name x px) (.ref I) body [] env) R s := by
  refine codeAny_forLoop
    (fun k s' => ∃ h' tk m' nx i, s' = { s with heap := h', toks := tk } ∧ St i h' ∧ Fr h₀ env.locals h' m' ∧ News h₀ env.locals h' nx ∧ (∀ p ∈ nx, p.1 ≠ I) ∧ J i m' nx ∧ i ≤ n ∧ k = n + 1 - i) ?_ (n + 1)
    ⟨s.heap, s.toks, m, news, 0, rfl, hst, F, N, off, h0, Nat.zero_le _, rfl⟩
  rintro k s' ⟨h', tk, m', nx, i, rfl, hst', F', N', off', hJ, hi, rfl⟩
  have next : ∀ h₁ : Heap, (∀ b o, b ∉ [I] → h'.get? b = some o → h₁.get? b = some o) → Fr h₀ env.locals h₁ m' ∧ News h₀ env.locals h₁ nx := fun h₁ hk₁ =>
    ⟨⟨F'.ns.at' fun o e => hk₁ _ o (by simpa using Ne.symm hIL) e, fun b o e => hk₁ b o (fun hb => by rw [List.mem_singleton.mp hb, hI₀] at e; cases e) (F'.keep b o e), F'.above⟩,
      fun p hp => ⟨hk₁ _ _ (by simpa using off' p hp) (N' p hp).1, (N' p hp).2⟩⟩
  by_cases hlt : i < n
  · refine W.item i _ _ _ hlt hst' fun v h₁ tk₁ hP hst₁ hk₁ => ?_
    obtain ⟨F₁, N₁⟩ := next h₁ hk₁
    refine wpAny_assign_Name (wpAny_storeName_local hx F₁.ns (fun h₂ hn₂ hs₂ => ?_) hp)
    have F₂ := F₁.set hn₂ hs₂
    have N₂ := N₁.set hs₂
    have hst₂ : St (i + 1) h₂ := W.frame _ _ _ hst₁ fun b hb o e => hs₂.extBut b o (fun q => hLf (q ▸ hb)) e
    obtain ⟨oI, hoI⟩ := hIo _ _ hst₂
    have N₃ : News h₀ env.locals h₂ ((I, oI) :: nx) := fun p hp => by
      rcases List.mem_cons.mp hp with rfl | hp
      · exact ⟨hoI, hIL, hI₀⟩
      · exact N₂ p hp
    refine wpAny_mono (turn i v m' nx h₂ _ oI hlt hP hJ off' F₂ N₃) (fun f s₃ h₃ => ?_) fun _ _ e => e.elim
    obtain ⟨rfl, h₃', tk₃, m₃, nx₃, rfl, F₃, N₃', off₃, hJ₃⟩ := h₃
    refine ⟨n + 1 - (i + 1), by omega, h₃', tk₃, m₃, nx₃, i + 1, rfl, ?_, F₃, fun p hp => N₃' p (.tail _ hp), off₃, hJ₃, hlt, rfl⟩
    exact hSt _ _ _ _ _ hst₂ hoI (N₃' _ (.head _)).1 F₃.keep (fun p hp => N₃' p (.tail _ hp)) (hS _ _ _ hJ₃)
  · have hin : i = n := by omega
    subst hin
    refine W.done _ _ _ hst' fun h₁ tk₁ hk₁ => wpAny_execs_nil ?_
    obtain ⟨F₁, N₁⟩ := next h₁ hk₁
    exact done h₁ tk₁ m' nx F₁ N₁ hJ

abbrev LoopQ (prog : Program) (w : World) (A : Around) (env : Env) (x : Str) (px : Pos) (body : List Stmt) (Q : Flow → Shared → Prop) (E : Value → Shared → Prop) (it : Value) (s₂ : Shared) : Prop :=
  codeAny (model prog w) A (.forLoop (.Name x px) it body [] env) (fun r s' => match r with | .ok f => Q f s' | .error e => cameBackBy (model prog w) A env E e s') s₂

/-- a for over a range from 0 -/
theorem for_range {Q : Flow → Shared → Prop} {x : Str} {px : Pos} {body : List Stmt} {r : Addr} {b : Int} {t u v : Tok} {n : Nat}
    (hh : A.handled = none) (hr : IsRange s.heap r 0 b 1 t u v) (hb : b = (n : Int)) (hn : n < 100000)
    (hx : env.kindOf x = some .local) (hp : (env.scope.kind == .class || (env.scope.kind == .module && env.locals != env.globals)) = false)
    (F : Fr h₀ env.locals s.heap m) (N : News h₀ env.locals s.heap news)
    (J : Nat → (Str → Option Value) → List (Addr × Obj) → Prop) (h0 : J 0 m news)
    (turn : ∀ i t m₁ nx h tk I oI, i < n → J i m₁ nx → (∀ p ∈ nx, p.1 ≠ I) → Fr h₀ env.locals h (fun y => if y = x then some (.int (i : Int) t) else m₁ y) → News h₀ env.locals h ((I, oI) :: nx) →
      wpAny (model prog w) A (execs body env) (TurnEnd h₀ env.locals I oI (J (i + 1)) { s with heap := h, toks := tk }) (fun _ _ => False) { s with heap := h, toks := tk })
    (done : ∀ h' tk m' nx, Fr h₀ env.locals h' m' → News h₀ env.locals h' nx → J n m' nx → Q .next { s with heap := h', toks := tk }) :
    wpAny (model prog w) A (pyIter (.ref r)) (LoopQ prog w A env x px body Q E) E s := by
  subst hb
  have hsm : Builtin.Range.small 0 (n : Int) 1 = true := small_one (by omega) (by omega) (by omega) (by omega)
  have hsz : Builtin.Range.rangeSize 0 (n : Int) 1 = (n : Int) := by rw [rangeSize_nat]; omega
  refine wpAny_pyIter_range hr hsm ?_
  have up : ∀ b o, s.heap.get? b = some o → (s.heap.push { cls := .type "range_iterator", data := .fields #[rawInt 0, rawInt (Builtin.Range.rangeSize 0 (n : Int) 1), rawInt 1] }).get? b = some o := fun b o e => Heap.get?_push_of_some _ e
  refine for_loop (S := fun _ => True) (n := n) (LCg.range_walks hh 0 n) (fun i h st => ⟨_, st⟩) LCg.range_st hx hp (by show IsRangeIter _ _ _ _ _; rw [hsz]; simpa using Heap.get?_push_size _ rfl)
    (F.keeps up) (N.grown up) (next_is_new F) (Ne.symm (Nat.ne_of_lt F.ns.lt)) (fun p hp => Nat.ne_of_lt (Heap.lt_size (N p hp).1)) (fun hm => absurd F.ns.lt (List.mem_singleton.mp hm ▸ Nat.lt_irrefl _)) J h0 (fun _ _ _ _ => trivial) ?_ ?_
  · intro i v m₁ nx h tk oI hi hv hJ off F' N'
    obtain ⟨t, rfl⟩ := hv
    rw [Int.zero_add] at F'
    exact turn i t m₁ nx h tk _ oI hi hJ off F' N'
  · exact done

def SrcTup (h₀ : Heap) (r : Addr) (its : List Value) (nx : List (Addr × Obj)) : Prop := h₀.get? r = some { cls := .type "tuple", data := .seq its.toArray } ∨ (r, ({ cls := .type "tuple", data := .seq its.toArray } : Obj)) ∈ nx
theorem SrcTup.get {h : Heap} {L r : Addr} {its : List Value} {nx : List (Addr × Obj)} (x : SrcTup h₀ r its nx) (k : ∀ b o, h₀.get? b = some o → h.get? b = some o) (N : News h₀ L h nx) : h.get? r = some { cls := .type "tuple", data := .seq its.toArray } :=
  x.elim (k _ _) fun hm => (N _ hm).1

/-- a for over a tuple that stays -/
theorem for_tuple {Q : Flow → Shared → Prop} {x : Str} {px : Pos} {body : List Stmt} {r : Addr} {its : List Value}
    (hh : A.handled = none)
    (hx : env.kindOf x = some .local) (hp : (env.scope.kind == .class || (env.scope.kind == .module && env.locals != env.globals)) = false)
    (F : Fr h₀ env.locals s.heap m) (N : News h₀ env.locals s.heap news)
    (J : Nat → (Str → Option Value) → List (Addr × Obj) → Prop) (h0 : J 0 m news) (hS : ∀ i m nx, J i m nx → SrcTup h₀ r its nx)
    (turn : ∀ i v m₁ nx h tk I oI, its[i]? = some v → J i m₁ nx → (∀ p ∈ nx, p.1 ≠ I) → Fr h₀ env.locals h (fun y => if y = x then some v else m₁ y) → News h₀ env.locals h ((I, oI) :: nx) →
      wpAny (model prog w) A (execs body env) (TurnEnd h₀ env.locals I oI (J (i + 1)) { s with heap := h, toks := tk }) (fun _ _ => False) { s with heap := h, toks := tk })
    (done : ∀ h' tk m' nx, Fr h₀ env.locals h' m' → News h₀ env.locals h' nx → J its.length m' nx → Q .next { s with heap := h', toks := tk }) :
    wpAny (model prog w) A (pyIter (.ref r)) (LoopQ prog w A env x px body Q E) E s := by
  have hr := (hS _ _ _ h0).get F.keep N
  have ht : s.heap.IsTuple r its.toArray := ⟨_, hr, rfl, _, rfl⟩
  refine wpAny_pyIter_tuple ht ?_
  have up : ∀ b o, s.heap.get? b = some o → (s.heap.push { cls := .type "tuple_iterator", data := .fields #[.ref r, .int 0 0] }).get? b = some o := fun b o e => Heap.get?_push_of_some _ e
  have hne : r ≠ s.heap.objs.size := Nat.ne_of_lt (Heap.lt_size hr)
  have hrL : env.locals ≠ r := by
    rcases hS _ _ _ h0 with e | hm
    · exact fun q => absurd (Nat.lt_of_lt_of_le (Heap.lt_size e) F.above) (q ▸ Nat.lt_irrefl _)
    · exact fun q => (N _ hm).2.1 q.symm
  refine for_loop (S := SrcTup h₀ r its) (n := its.toArray.size) (Walks.tuple hh s.heap.objs.size r hne its.toArray) (fun i h st => by obtain ⟨o, e, _⟩ := st.1; exact ⟨o, e⟩)
    (fun i h h' o nx st e e' k N S => ⟨st.1.at fun o q => by rw [e] at q; cases q; exact e', ⟨_, S.get k N, rfl, _, rfl⟩⟩) hx hp ⟨⟨_, Heap.get?_push_size _ rfl, rfl, rfl⟩, ht.at fun o e => up _ o e⟩
    (F.keeps up) (N.grown up) (next_is_new F) (Ne.symm (Nat.ne_of_lt F.ns.lt)) (fun p hp => Nat.ne_of_lt (Heap.lt_size (N p hp).1)) ?_ J h0 hS ?_ ?_
  · intro hm
    rcases List.mem_cons.mp hm with e | hm
    · exact absurd F.ns.lt (e ▸ Nat.lt_irrefl _)
    · exact hrL (List.mem_singleton.mp hm)
  · intro i v m₁ nx h tk oI hi hv hJ off F' N'
    exact turn i v m₁ nx h tk _ oI (by simpa using hv) hJ off F' N'
  · intro h' tk m' nx F' N' hJ
    rw [List.size_toArray] at hJ
    exact done h' tk m' nx F' N' hJ

def SrcLst (h₀ : Heap) (r : Addr) (its : List Value) (nx : List (Addr × Obj)) : Prop := ∃ k, h₀.get? r = some (listOf its.toArray k) ∨ (r, listOf its.toArray k) ∈ nx
theorem SrcLst.get {h : Heap} {L r : Addr} {its : List Value} {nx : List (Addr × Obj)} (x : SrcLst h₀ r its nx) (k : ∀ b o, h₀.get? b = some o → h.get? b = some o) (N : News h₀ L h nx) : ∃ k, h.get? r = some (listOf its.toArray k) :=
  let ⟨n, y⟩ := x; ⟨n, y.elim (k _ _) fun hm => (N _ hm).1⟩
/-- a for over a list that stays -/
theorem for_list {Q : Flow → Shared → Prop} {x : Str} {px : Pos} {body : List Stmt} {r : Addr} {its : List Value}
    (hh : A.handled = none)
    (hx : env.kindOf x = some .local) (hp : (env.scope.kind == .class || (env.scope.kind == .module && env.locals != env.globals)) = false)
    (F : Fr h₀ env.locals s.heap m) (N : News h₀ env.locals s.heap news)
    (J : Nat → (Str → Option Value) → List (Addr × Obj) → Prop) (h0 : J 0 m news) (hS : ∀ i m nx, J i m nx → SrcLst h₀ r its nx)
    (turn : ∀ i v m₁ nx h tk I oI, its[i]? = some v → J i m₁ nx → (∀ p ∈ nx, p.1 ≠ I) → Fr h₀ env.locals h (fun y => if y = x then some v else m₁ y) → News h₀ env.locals h ((I, oI) :: nx) →
      wpAny (model prog w) A (execs body env) (TurnEnd h₀ env.locals I oI (J (i + 1)) { s with heap := h, toks := tk }) (fun _ _ => False) { s with heap := h, toks := tk })
    (done : ∀ h' tk m' nx, Fr h₀ env.locals h' m' → News h₀ env.locals h' nx → J its.length m' nx → Q .next { s with heap := h', toks := tk }) :
    wpAny (model prog w) A (pyIter (.ref r)) (LoopQ prog w A env x px body Q E) E s := by
  obtain ⟨k₀, hr⟩ := (hS _ _ _ h0).get F.keep N
  have ht : s.heap.IsList r its.toArray := ⟨_, hr, rfl, _, rfl⟩
  refine wpAny_pyIter_list ht ?_
  have up : ∀ b o, s.heap.get? b = some o → (s.heap.push { cls := .type "list_iterator", data := .fields #[.ref r, .int 0 0] }).get? b = some o := fun b o e => Heap.get?_push_of_some _ e
  have hne : r ≠ s.heap.objs.size := Nat.ne_of_lt (Heap.lt_size hr)
  have hrL : env.locals ≠ r := by
    obtain ⟨k, e | hm⟩ := hS _ _ _ h0
    · exact fun q => absurd (Nat.lt_of_lt_of_le (Heap.lt_size e) F.above) (q ▸ Nat.lt_irrefl _)
    · exact fun q => (N _ hm).2.1 q.symm
  refine for_loop (S := SrcLst h₀ r its) (n := its.toArray.size) (Walks.list hh s.heap.objs.size r hne its.toArray) (fun i h st => by obtain ⟨o, e, _⟩ := st.1; exact ⟨o, e⟩)
    (fun i h h' o nx st e e' k N S => ⟨by obtain ⟨o', q, r⟩ := st.1; rw [e] at q; cases q; exact ⟨o, e', r⟩, by obtain ⟨k, g⟩ := S.get k N; exact ⟨_, g, rfl, _, rfl⟩⟩) hx hp ⟨⟨_, Heap.get?_push_size _ rfl, rfl, rfl⟩, ht.at fun o e => up _ o e⟩
    (F.keeps up) (N.grown up) (next_is_new F) (Ne.symm (Nat.ne_of_lt F.ns.lt)) (fun p hp => Nat.ne_of_lt (Heap.lt_size (N p hp).1)) ?_ J h0 hS ?_ ?_
  · intro hm
    rcases List.mem_cons.mp hm with e | hm
    · exact absurd F.ns.lt (e ▸ Nat.lt_irrefl _)
    · exact hrL (List.mem_singleton.mp hm)
  · intro i v m₁ nx h tk oI hi hv hJ off F' N'
    exact turn i v m₁ nx h tk _ oI (by simpa using hv) hJ off F' N'
  · intro h' tk m' nx F' N' hJ
    rw [List.size_toArray] at hJ
    exact done h' tk m' nx F' N' hJ
end
end
open PySem PySem.W PySem.Calls PyProof.Rows
set_option Elab.async false
set_option maxRecDepth 100000
set_option maxHeartbeats 2000000
section
/-- the addresses of a ledger's tail are none of these -/
def Off (xs : List Addr) (l : List (Addr × Obj)) : Prop := ∀ p ∈ l, p.1 ∉ xs
theorem Off.nil {xs : List Addr} : Off xs [] := fun _ h => nomatch h
theorem Off.ne {xs : List Addr} {l : List (Addr × Obj)} {d : Addr} (h : Off xs l) (hd : d ∈ xs) : ∀ p ∈ l, p.1 ≠ d := fun p hp e => h p hp (e ▸ hd)
theorem Off.cons {xs : List Addr} {l : List (Addr × Obj)} {p : Addr × Obj} (h : Off xs l) (hp : p.1 ∉ xs) : Off xs (p :: l) := fun q hq => by
  rcases List.mem_cons.mp hq with rfl | hq
  · exact hp
  · exact h q hq
theorem Off.sub {xs ys : List Addr} {l : List (Addr × Obj)} (h : Off xs l) (hs : ∀ x ∈ ys, x ∈ xs) : Off ys l := fun p hp e => h p hp (hs _ e)
theorem Off.more {xs : List Addr} {l : List (Addr × Obj)} {d : Addr} (h : Off xs l) (hd : ∀ p ∈ l, p.1 ≠ d) : Off (d :: xs) l := fun p hp e => by
  rcases List.mem_cons.mp e with e | e
  · exact hd p hp e
  · exact h p hp e
/-- all of the one tail stands in the other -/
def Sub (l l' : List (Addr × Obj)) : Prop := ∀ p ∈ l, p ∈ l'
theorem Sub.mem {l l' : List (Addr × Obj)} {p : Addr × Obj} (h : Sub l l') (hp : p ∈ l) : p ∈ l' := h p hp
theorem Sub.refl (l : List (Addr × Obj)) : Sub l l := fun _ h => h
theorem Sub.cons {l l' : List (Addr × Obj)} {q : Addr × Obj} (h : Sub l l') : Sub l (q :: l') := fun p hp => .tail _ (h p hp)
theorem Sub.trans {l l' l'' : List (Addr × Obj)} (h : Sub l l') (h' : Sub l' l'') : Sub l l'' := fun p hp => h' p (h p hp)
abbrev InL (l : List (Addr × Obj)) : Addr → Obj → Prop := fun a o => (a, o) ∈ l

inductive TailAt (r : List (Addr × Obj)) : List (Addr × Obj) → (List (Addr × Obj) → List (Addr × Obj)) → Prop
  | here : TailAt r r fun x => x
  | cons {p l g} : TailAt r l g → TailAt r (p :: l) fun x => p :: g x
theorem TailAt.mem {r : List (Addr × Obj)} : ∀ {l : List (Addr × Obj)} {g : List (Addr × Obj) → List (Addr × Obj)}, TailAt r l g → ∀ (r' : List (Addr × Obj)) (p : Addr × Obj), p ∈ g r' → p ∈ r' ∨ p ∈ l
  | _, _, .here, _, _, h => .inl h
  | _, _, .cons T, r', q, h => by
    rcases List.mem_cons.mp h with rfl | h
    · exact .inr (.head _)
    · exact (T.mem r' q h).imp id (.tail _)
theorem TailAt.tail {r : List (Addr × Obj)} : ∀ {l : List (Addr × Obj)} {g : List (Addr × Obj) → List (Addr × Obj)}, TailAt r l g → ∀ p ∈ r, p ∈ l
  | _, _, .here, _, h => h
  | _, _, .cons T, _, h => .tail _ (T.tail _ h)
theorem News.sub {h₀ h : Heap} {L : Addr} {l l' : List (Addr × Obj)} (N : News h₀ L h l) (s : ∀ p ∈ l', p ∈ l) : News h₀ L h l' := fun p hp => N p (s p hp)

theorem newsRot2 {h₀ h : Heap} {L : Addr} {a b : Addr × Obj} {r : List (Addr × Obj)} (N : News h₀ L h (a :: b :: r)) : News h₀ L h (b :: a :: r) := fun p hp => N p <| by
  simp only [List.mem_cons] at hp ⊢; rcases hp with h | h | h <;> simp [h]
theorem newsRot3 {h₀ h : Heap} {L : Addr} {a b c : Addr × Obj} {r : List (Addr × Obj)} (N : News h₀ L h (a :: b :: c :: r)) : News h₀ L h (b :: c :: a :: r) := fun p hp => N p <| by
  simp only [List.mem_cons] at hp ⊢; rcases hp with h | h | h | h <;> simp [h]
theorem newsRot4 {h₀ h : Heap} {L : Addr} {a b c d : Addr × Obj} {r : List (Addr × Obj)} (N : News h₀ L h (a :: b :: c :: d :: r)) : News h₀ L h (b :: c :: d :: a :: r) := fun p hp => N p <| by
  simp only [List.mem_cons] at hp ⊢; rcases hp with h | h | h | h | h <;> simp [h]
theorem newsRot5 {h₀ h : Heap} {L : Addr} {a b c d e : Addr × Obj} {r : List (Addr × Obj)} (N : News h₀ L h (a :: b :: c :: d :: e :: r)) : News h₀ L h (b :: c :: d :: e :: a :: r) := fun p hp => N p <| by
  simp only [List.mem_cons] at hp ⊢; rcases hp with h | h | h | h | h | h <;> simp [h]
theorem Off.new {xs : List Addr} {l : List (Addr × Obj)} {d : Addr} {o : Obj} (h : Off xs l) (hd : ∀ x ∈ xs, @LT.lt Nat _ x d) : Off xs ((d, o) :: l) := h.cons fun q => Nat.lt_irrefl _ (hd _ q)
theorem allNe {I : Addr} {l : List (Addr × Obj)} {p : Addr × Obj} (h : ∀ q ∈ l, q.1 ≠ I) (hp : p.1 ≠ I) : ∀ q ∈ p :: l, q.1 ≠ I := fun q hq => by
  rcases List.mem_cons.mp hq with rfl | hq
  · exact hp
  · exact h q hq
theorem form1 {m : Str → Option Value} {k1 : Str} {v1 : Value} (h1 : m k1 = some v1) : ∃ mo : Str → Option Value, m = fun y => if y = k1 then some v1 else mo y :=
  ⟨m, by funext y; split <;> simp_all⟩
theorem form2 {m : Str → Option Value} {k1 k2 : Str} {v1 v2 : Value} (h1 : m k1 = some v1) (h2 : m k2 = some v2) : ∃ mo : Str → Option Value, m = fun y => if y = k1 then some v1 else if y = k2 then some v2 else mo y :=
  ⟨m, by funext y; repeat' split
         all_goals simp_all⟩
theorem form3 {m : Str → Option Value} {k1 k2 k3 : Str} {v1 v2 v3 : Value} (h1 : m k1 = some v1) (h2 : m k2 = some v2) (h3 : m k3 = some v3) : ∃ mo : Str → Option Value, m = fun y => if y = k1 then some v1 else if y = k2 then some v2 else if y = k3 then some v3 else mo y :=
  ⟨m, by funext y; repeat' split
         all_goals simp_all⟩
theorem form4 {m : Str → Option Value} {k1 k2 k3 k4 : Str} {v1 v2 v3 v4 : Value} (h1 : m k1 = some v1) (h2 : m k2 = some v2) (h3 : m k3 = some v3) (h4 : m k4 = some v4) :
    ∃ mo : Str → Option Value, m = fun y => if y = k1 then some v1 else if y = k2 then some v2 else if y = k3 then some v3 else if y = k4 then some v4 else mo y :=
  ⟨m, by funext y; repeat' split
         all_goals simp_all⟩
theorem form5 {m : Str → Option Value} {k1 k2 k3 k4 k5 : Str} {v1 v2 v3 v4 v5 : Value} (h1 : m k1 = some v1) (h2 : m k2 = some v2) (h3 : m k3 = some v3) (h4 : m k4 = some v4) (h5 : m k5 = some v5) :
    ∃ mo : Str → Option Value, m = fun y => if y = k1 then some v1 else if y = k2 then some v2 else if y = k3 then some v3 else if y = k4 then some v4 else if y = k5 then some v5 else mo y :=
  ⟨m, by funext y; repeat' split
         all_goals simp_all⟩

/-- a list of pairs of an int and a text -/
inductive FaultsAre (S : Addr → Obj → Prop) : List Value → List (Int × Str) → Prop
  | nil : FaultsAre S [] []
  | cons {a i t x u vs fs} : S a (tupOf [.int i t, .str x u]) → FaultsAre S vs fs → FaultsAre S (.ref a :: vs) ((i, x) :: fs)
theorem FaultsAre.mono {S S' : Addr → Obj → Prop} {vs : List Value} {fs : List (Int × Str)} (h : FaultsAre S vs fs) (k : ∀ a o, o.cls = .type "tuple" → S a o → S' a o) : FaultsAre S' vs fs := by
  induction h with
  | nil => exact .nil
  | cons e _ ih => exact .cons (k _ _ rfl e) ih
theorem FaultsAre.append {S : Addr → Obj → Prop} {vs vs' : List Value} {fs fs' : List (Int × Str)} (h : FaultsAre S vs fs) (h' : FaultsAre S vs' fs') : FaultsAre S (vs ++ vs') (fs ++ fs') := by
  induction h with
  | nil => exact h'
  | cons e _ ih => exact .cons e ih
theorem FaultsAre.snoc {S : Addr → Obj → Prop} {vs : List Value} {fs : List (Int × Str)} {a : Addr} {i : Int} {x : Str} {t u : Tok} (h : FaultsAre S vs fs) (e : S a (tupOf [.int i t, .str x u])) : FaultsAre S (vs ++ [.ref a]) (fs ++ [(i, x)]) := h.append (.cons e .nil)
theorem FaultsAre.length {S : Addr → Obj → Prop} {vs : List Value} {fs : List (Int × Str)} (h : FaultsAre S vs fs) : vs.length = fs.length := by
  induction h with
  | nil => rfl
  | cons _ _ ih => simp [ih]


theorem News.meet {h₀ h : Heap} {L : Addr} {l l' : List (Addr × Obj)} (N : News h₀ L h l) (N' : News h₀ L h l') : News h₀ L h (l ++ l') := fun p hp => (List.mem_append.mp hp).elim (N p) (N' p)
/-- the rows of the code -/
def RowsAt (S : Addr → Obj → Prop) (vs : List Value) (rows : List Row) : Prop := vs.length = rows.length ∧ ∀ (i : Nat) (v : Value) (r : Row), vs[i]? = some v → rows[i]? = some r → RowAt S v r
theorem RowsAt.mono {S S' : Addr → Obj → Prop} {vs : List Value} {rows : List Row} (h : RowsAt S vs rows) (k : ∀ a o, o.cls = .type "tuple" → S a o → S' a o) : RowsAt S' vs rows := ⟨h.1, fun i v r a b => (h.2 i v r a b).mono k⟩
theorem RowsAt.at {S : Addr → Obj → Prop} {vs : List Value} {rows : List Row} (h : RowsAt S vs rows) {i : Nat} (hi : i < rows.length) : ∃ v, vs[i]? = some v ∧ RowAt S v rows[i] := by
  have hv : i < vs.length := by rw [h.1]; exact hi
  exact ⟨vs[i], List.getElem?_eq_getElem hv, h.2 i _ _ (List.getElem?_eq_getElem hv) (List.getElem?_eq_getElem hi)⟩

section
variable {prog : Program} {w : World} {A : Around} {E : Value → Shared → Prop} {s : Shared}
theorem for_exec {Q : Flow → Shared → Prop} {x : Str} {px pos : Pos} {iter : Expr} {env : Env} {body : List Stmt}
    (h : wpAny (model prog w) A (eval iter env) (fun xv s₁ => wpAny (model prog w) A (pyIter xv) (LoopQ prog w A env x px body Q E) E s₁) E s)
    (hs : ∀ x, foldedSetIterable iter env x = pure x) :
    wpAny (model prog w) A (exec (.For (.Name x px) iter body [] pos) env) Q E s :=
  wpAny_For (wpAny_mono h (fun _ _ h₁ => wpAny_mono h₁ (fun _ _ h₂ => h₂) fun _ _ e => e) fun _ _ e => e) hs
theorem item_lst {value slice : Expr} {l : Addr} {vs : List Value} {k : Int} {u : Tok} {v : Value} {Q : Value → Shared → Prop}
    (hl : s.heap.IsList l vs.toArray) (h0 : 0 ≤ k) (hhi : k < 2 ^ 63) (hx : vs[k.toNat]? = some v) (h : Q v s)
    (hs : subscripted slice false (.ref l) (.int k u) = operate [.ref l, .int k u] (getItem (.ref l) (.int k u))) :
    wpAny (model prog w) A (subscriptTail value slice (.ref l) (.int k u)) Q E s :=
  tail_any hl.typeIs slot_list_getitem.lookup (wpAny_getItem_list hl h0 hhi (by simpa using hx) h) hs

theorem item_lst_last {value slice : Expr} {l : Addr} {vs : List Value} {u : Tok} {v : Value} {Q : Value → Shared → Prop}
    (hl : s.heap.IsList l vs.toArray) (hx : vs.getLast? = some v) (hz : vs.length ≤ 1000000) (h : Q v s)
    (hs : subscripted slice false (.ref l) (.int (-1) u) = operate [.ref l, .int (-1) u] (getItem (.ref l) (.int (-1) u))) :
    wpAny (model prog w) A (subscriptTail value slice (.ref l) (.int (-1) u)) Q E s := by
  have h0 : vs ≠ [] := by rintro rfl; simp at hx
  have h1 : 0 < vs.length := List.length_pos_iff.mpr h0
  refine tail_any hl.typeIs slot_list_getitem.lookup (wpAny_getItem_list_neg (x := v) hl (by omega) (by rw [List.size_toArray]; omega) (by omega) ?_ h) hs
  rw [List.size_toArray]
  have e : ((-1 : Int) + (vs.length : Int)).toNat = vs.length - 1 := by omega
  rw [e, ← hx, List.getLast?_eq_getElem?]
  simp
theorem falls_use {mean : ExcName → Option Value} {mg mb : Str → Option Value} {h₀ : Heap} {L : Addr} {m : Str → Option Value} {news : List (Addr × Obj)} {v : Value} {row : Row} {S : Addr → Obj → Prop} {Q : Value → Shared → Prop}
    (hh : A.handled = none) (hdp : A.depth + 5 < recursionLimit) (F : Fr h₀ L s.heap m) (X₀ : (hd.heap_39 w.params).In h₀) (T₀ : Top hd.view_39 (looseW hd.view_39 []) mean mg mb h₀) (N : News h₀ L s.heap news)
    (hS : ∀ a o, S a o → s.heap.get? a = some o) (hr : RowAt S v row)
    (h : ∀ h' tk₁, Fr h₀ L h' m → News h₀ L h' news → Q (.bool row.falls) { s with heap := h', toks := tk₁ }) :
    wpAny (model PySem.Challenge.rw_nn0292_01.row.prog w) A (call (.ref 28) [v]) Q E s := by
  obtain ⟨hd, d, fr, gd, un⟩ := A
  obtain rfl : hd = none := hh
  refine wpAny_mono (falls_core hdp F.keep X₀ T₀ (hr.mono fun a o _ e => hS a o e) fun h' tk₁ R => ?_) (fun _ _ x => x) fun _ _ x => x.elim
  exact h h' tk₁ (R.fr F fun _ q => nomatch q) (R.news N fun _ _ q => nomatch q)

theorem targets_use {mean : ExcName → Option Value} {mg mb : Str → Option Value} {h₀ : Heap} {L : Addr} {m : Str → Option Value} {news rest : List (Addr × Obj)} {g : List (Addr × Obj) → List (Addr × Obj)} {xs : List Addr} {v : Value} {row : Row} {Q : Value → Shared → Prop}
    (hh : A.handled = none) (hdp : A.depth + 5 < recursionLimit) (F : Fr h₀ L s.heap m) (X₀ : (hd.heap_39 w.params).In h₀) (T₀ : Top hd.view_39 (looseW hd.view_39 []) mean mg mb h₀) (N : News h₀ L s.heap news)
    (hT : TailAt rest news g) (hoff : Off xs rest) (hxs : ∀ x ∈ xs, ∃ o, (x, o) ∈ news)
    (hr : RowAt (At h₀) v row)
    (h : ∀ r vs h' tk₁ rest', Fr h₀ L h' m → News h₀ L h' (g rest') → Off xs rest' → Sub rest rest' → SrcTup h₀ r vs rest' → IntsAre vs row.targets → Q (.ref r) { s with heap := h', toks := tk₁ }) :
    wpAny (model PySem.Challenge.rw_nn0292_01.row.prog w) A (call (.ref 21) [v]) Q E s := by
  obtain ⟨hd, d, fr, gd, un⟩ := A
  obtain rfl : hd = none := hh
  refine wpAny_mono (targets_core hdp F.keep X₀ T₀ F.keep hr fun r vs h' tk₁ R hg hi hn => ?_) (fun _ _ x => x) fun _ _ x => x.elim
  have F' := R.fr F fun _ q => nomatch q
  have N' := R.news N fun _ _ q => nomatch q
  rcases hn with hn | hn
  · refine h r vs h' tk₁ ((r, tupOf vs) :: rest) F' (fun p hp => ?_) (hoff.cons fun q => ?_) (fun p hp => .tail _ hp) (.inr (.head _)) hi
    · rcases hT.mem _ _ hp with hp | hp
      · rcases List.mem_cons.mp hp with rfl | hp
        · refine ⟨hg, fun e => ?_, ?_⟩
          · obtain ⟨oL, _, _, hL, _⟩ := F.ns
            have e' : r = L := e
            rw [e', hL] at hn
            cases hn
          · cases q : h₀.get? r with
            | none => rfl
            | some o => rw [F.keep _ _ q] at hn; cases hn
        · exact N' p (hT.tail _ hp)
      · exact N' p hp
    · obtain ⟨o, ho⟩ := hxs _ q
      have := (N _ ho).1
      rw [hn] at this
      cases this
  · refine h r vs h' tk₁ rest F' (fun p hp => ?_) hoff (fun p hp => hp) (.inl hn) hi
    rcases hT.mem _ _ hp with hp | hp
    · exact N' p (hT.tail _ hp)
    · exact N' p hp
end
end
open PySem PySem.W PySem.Calls PyProof.Rows
set_option Elab.async false
set_option maxRecDepth 100000
set_option maxHeartbeats 2000000
section
def badOne (n i : Nat) (t : Int) : List (Int × Str) := if t < 0 ∨ (n : Int) ≤ t then [((i : Int), Str.ofString "bad_target")] else []
def badAt (n i : Nat) (ts : List Int) : List (Int × Str) := ts.flatMap (badOne n i)
def tfTo (rows : List Row) (k : Nat) : List (Int × Str) := (List.range k).flatMap fun i => badAt rows.length i ((rows.getD i .set).targets)
def endFault (rows : List Row) : List (Int × Str) := if rows.getLast?.elim true Row.falls then [((rows.length : Int), Str.ofString "no_end")] else []
def due (rows : List Row) : List (Int × Str) := tfTo rows rows.length ++ endFault rows
theorem tfTo_succ (rows : List Row) (k : Nat) : tfTo rows (k + 1) = tfTo rows k ++ badAt rows.length k ((rows.getD k .set).targets) := by
  unfold tfTo; rw [List.range_succ, List.flatMap_append]; simp
theorem badAt_take (n i : Nat) (ts : List Int) (k : Nat) (t : Int) (h : ts[k]? = some t) : badAt n i (ts.take (k + 1)) = badAt n i (ts.take k) ++ badOne n i t := by
  unfold badAt
  rw [List.take_add_one, h, List.flatMap_append]
  simp

def TfO (c aF : Addr) (rows : List Row) (i : Nat) (m : Str → Option Value) (nx : List (Addr × Obj)) : Prop :=
  ∃ fs n rest, nx = (aF, listOf (List.toArray fs) n) :: rest ∧ Off [aF] rest ∧ FaultsAre (InL rest) fs (tfTo rows i) ∧ fs.length ≤ 2 * i ∧ m (Str.ofString "code") = some (.ref c) ∧ m (Str.ofString "faults") = some (.ref aF)
def TfI (c aF I : Addr) (oI : Obj) (r : Addr) (its : List Value) (h₀ : Heap) (rows : List Row) (i : Nat) (t : Tok) (row : Row) (k : Nat) (m : Str → Option Value) (nx : List (Addr × Obj)) : Prop :=
  ∃ fs n rest, nx = (I, oI) :: (aF, listOf (List.toArray fs) n) :: rest ∧ Off [I, aF] rest ∧ SrcTup h₀ r its rest ∧ FaultsAre (InL rest) fs (tfTo rows i ++ badAt rows.length i (row.targets.take k)) ∧ fs.length ≤ 2 * i + k ∧
    m (Str.ofString "code") = some (.ref c) ∧ m (Str.ofString "faults") = some (.ref aF) ∧ m (Str.ofString "address") = some (.int (i : Int) t)
theorem tfo_start {c aF : Addr} {S : Addr → Obj → Prop} {vs : List Value} {rows : List Row} {m : Str → Option Value} (_h : RowsAt S vs rows) (h1 : m (Str.ofString "code") = some (.ref c)) (h2 : m (Str.ofString "faults") = some (.ref aF)) :
    TfO c aF rows 0 m [(aF, listOf #[] 0)] := ⟨[], 0, [], rfl, Off.nil, .nil, Nat.zero_le _, h1, h2⟩
theorem tfi_start {c aF I : Addr} {oI : Obj} {r : Addr} {its : List Value} {h₀ : Heap} {rows : List Row} {i : Nat} {t : Tok} {row : Row} {m : Str → Option Value} {fs : List Value} {n : Nat} {rest rest' : List (Addr × Obj)}
    (ho : Off [I, aF] rest') (hs : SrcTup h₀ r its rest') (hf : FaultsAre (InL rest) fs (tfTo rows i)) (hl : fs.length ≤ 2 * i) (hi : IntsAre its row.targets) (sub : ∀ p ∈ rest, p ∈ rest') (h1 : m (Str.ofString "code") = some (.ref c)) (h2 : m (Str.ofString "faults") = some (.ref aF)) (h3 : m (Str.ofString "address") = some (.int (i : Int) t)) :
    TfI c aF I oI r its h₀ rows i t row 0 m ((I, oI) :: (aF, listOf (List.toArray fs) n) :: rest') :=
  ⟨fs, n, rest', rfl, ho, hs, by simpa [badAt] using hf.mono fun _ _ _ e => sub _ e, hl, h1, h2, h3⟩
theorem tfi_src {c aF I : Addr} {oI : Obj} {r : Addr} {its : List Value} {h₀ : Heap} {rows : List Row} {i : Nat} {t : Tok} {row : Row} (k : Nat) (m : Str → Option Value) (nx : List (Addr × Obj)) (h : TfI c aF I oI r its h₀ rows i t row k m nx) : SrcTup h₀ r its nx := by
  obtain ⟨fs, n, rest, rfl, _, hs, _⟩ := h
  exact hs.imp id fun x => .tail _ (.tail _ x)
theorem tfi_yes {c aF I D : Addr} {oI : Obj} {r : Addr} {its : List Value} {h₀ : Heap} {rows : List Row} {i k : Nat} {t t' u : Tok} {row : Row} {m : Str → Option Value} {fs : List Value} {n' : Nat} {rest : List (Addr × Obj)} {tv : Int}
    (ho : Off [I, aF] rest) (hs : SrcTup h₀ r its rest) (hf : FaultsAre (InL rest) fs (tfTo rows i ++ badAt rows.length i (row.targets.take k))) (hl : fs.length ≤ 2 * i + k) (hv : row.targets[k]? = some tv) (hb : tv < 0 ∨ (rows.length : Int) ≤ tv)
    (l1 : @LT.lt Nat _ I D) (l2 : @LT.lt Nat _ aF D) (h1 : m (Str.ofString "code") = some (.ref c)) (h2 : m (Str.ofString "faults") = some (.ref aF)) (h3 : m (Str.ofString "address") = some (.int (i : Int) t)) :
    TfI c aF I oI r its h₀ rows i t row (k + 1) m ((I, oI) :: (aF, listOf (List.toArray (fs ++ [.ref D])) n') :: (D, tupOf [.int (i : Int) t', .str (Str.ofString "bad_target") u]) :: rest) := by
  refine ⟨_, _, _, rfl, ho.new ?_, hs.imp id (.tail _), ?_, by simp; omega, h1, h2, h3⟩
  · intro x hx
    simp only [List.mem_cons, List.not_mem_nil, or_false] at hx
    rcases hx with rfl | rfl
    · exact l1
    · exact l2
  · rw [badAt_take _ _ _ _ _ hv, ← List.append_assoc]
    have e : badOne rows.length i tv = [((i : Int), Str.ofString "bad_target")] := by unfold badOne; rw [if_pos hb]
    rw [e]
    exact (hf.mono fun _ _ _ x => .tail _ x).snoc (.head _)
theorem tfi_no {c aF I : Addr} {oI : Obj} {r : Addr} {its : List Value} {h₀ : Heap} {rows : List Row} {i k : Nat} {t : Tok} {row : Row} {m : Str → Option Value} {fs : List Value} {n : Nat} {rest : List (Addr × Obj)} {tv : Int}
    (ho : Off [I, aF] rest) (hs : SrcTup h₀ r its rest) (hf : FaultsAre (InL rest) fs (tfTo rows i ++ badAt rows.length i (row.targets.take k))) (hl : fs.length ≤ 2 * i + k) (hv : row.targets[k]? = some tv) (hb : ¬ tv < 0) (hb' : ¬ (rows.length : Int) ≤ tv)
    (h1 : m (Str.ofString "code") = some (.ref c)) (h2 : m (Str.ofString "faults") = some (.ref aF)) (h3 : m (Str.ofString "address") = some (.int (i : Int) t)) :
    TfI c aF I oI r its h₀ rows i t row (k + 1) m ((I, oI) :: (aF, listOf (List.toArray fs) n) :: rest) := by
  refine ⟨_, _, _, rfl, ho, hs, ?_, by omega, h1, h2, h3⟩
  rw [badAt_take _ _ _ _ _ hv]
  have e : badOne rows.length i tv = [] := by unfold badOne; rw [if_neg (by omega)]
  rw [e, List.append_nil]
  exact hf
theorem tfo_next {c aF I : Addr} {its : List Value} {rows : List Row} {i : Nat} {m : Str → Option Value} {rest : List (Addr × Obj)} {fs : List Value} {n : Nat} (hi : i < rows.length)
    (ho : Off [I, aF] rest) (hf : FaultsAre (InL rest) fs (tfTo rows i ++ badAt rows.length i (rows[i].targets.take its.length))) (hl : fs.length ≤ 2 * i + its.length) (hit : its.length = rows[i].targets.length) (h2 : rows[i].targets.length ≤ 2)
    (h1 : m (Str.ofString "code") = some (.ref c)) (h2' : m (Str.ofString "faults") = some (.ref aF)) : TfO c aF rows (i + 1) m ((aF, listOf (List.toArray fs) n) :: rest) := by
  refine ⟨_, _, _, rfl, ho.sub (by simp), ?_, by omega, h1, h2'⟩
  rw [tfTo_succ]
  have e : rows.getD i .set = rows[i] := by simp [List.getD, List.getElem?_eq_getElem hi]
  rw [hit, List.take_length] at hf
  rw [e]
  exact hf
theorem mem_skip {α : Type} {a b x : α} {r : List α} (h : x ∈ a :: r) : x ∈ a :: b :: r := by
  rcases List.mem_cons.mp h with rfl | h
  · exact .head _
  · exact .tail _ (.tail _ h)
theorem endFault_last {vs : List Value} {rows : List Row} (hl : vs.length = rows.length) (h : 0 < vs.length) : endFault rows = if rows[vs.length - 1].falls = true then [((rows.length : Int), Str.ofString "no_end")] else [] := by
  unfold endFault
  have e : rows.getLast? = some rows[vs.length - 1] := by
    rw [List.getLast?_eq_getElem?]
    have e' : rows.length - 1 = vs.length - 1 := by omega
    rw [e']
    exact List.getElem?_eq_getElem (by omega)
  rw [e]
  rfl
theorem tf_yes {rest : List (Addr × Obj)} {fs vs : List Value} {rows : List Row} {D : Addr} {t u : Tok} (hf : FaultsAre (InL rest) fs (tfTo rows vs.length)) (hl : vs.length = rows.length) (he : endFault rows = [((rows.length : Int), Str.ofString "no_end")]) :
    FaultsAre (InL ((D, tupOf [.int (vs.length : Int) t, .str (Str.ofString "no_end") u]) :: rest)) (fs ++ [.ref D]) (due rows) := by
  unfold due
  rw [he, ← hl]
  exact (hf.mono fun _ _ _ x => .tail _ x).snoc (.head _)
theorem tf_no {rest : List (Addr × Obj)} {fs vs : List Value} {rows : List Row} (hf : FaultsAre (InL rest) fs (tfTo rows vs.length)) (hl : vs.length = rows.length) (he : endFault rows = []) :
    FaultsAre (InL rest) fs (due rows) := by
  unfold due
  rw [he, ← hl, List.append_nil]
  exact hf
theorem ints_get {vs : List Value} {ns : List Int} (h : IntsAre vs ns) : ∀ {k : Nat} {v : Value}, vs[k]? = some v → ∃ n t, v = .int n t ∧ ns[k]? = some n := by
  induction h with
  | nil => intro k v e; simp at e
  | cons n t _ ih =>
    intro k v e
    cases k with
    | zero => exact ⟨n, t, (Option.some.inj e).symm, rfl⟩
    | succ k => exact ih (by simpa using e)

theorem RowAt.two {S : Addr → Obj → Prop} {v : Value} {row : Row} (h : RowAt S v row) : row.targets.length ≤ 2 := by
  cases h with
  | fork _ _ _ hl => exact hl
  | _ _ => simp [Row.targets]
local macro_rules | `(tactic| k_all) => `(tactic| exact Off.ne (by assumption) (by simp))
local macro_rules | `(tactic| k_mem) => `(tactic| assumption)
theorem tf_core {w : World} {mean : ExcName → Option Value} {mg mb : Str → Option Value} {dp un : Nat} {fr : Option (List Env)} {gd : Option (List Code)} {s : Shared} {h₀ : Heap}
    {c : Addr} {vs : List Value} {rows : List Row} {Q : Value → Shared → Prop}
    (hdp : dp + 10 < recursionLimit)
    (hk₀ : ∀ b o, h₀.get? b = some o → s.heap.get? b = some o) (X₀ : (hd.heap_39 w.params).In h₀) (T₀ : Top hd.view_39 (looseW hd.view_39 []) mean mg mb h₀)
    (hc : s.heap.IsList c vs.toArray) (hr : RowsAt (At s.heap) vs rows) (hl : rows.length ≤ 1000)
    (h : ∀ r fs n h' tk₁, Ret s [] { s with heap := h', toks := tk₁ } → h'.get? r = some (listOf (List.toArray fs) n) → s.heap.get? r = none → FaultsAre (fun a o => h'.get? a = some o ∧ s.heap.get? a = none) fs (due rows) → Q (.ref r) { s with heap := h', toks := tk₁ }) :
    wpAny (model PySem.Challenge.rw_nn0292_01.row.prog w) (Ar dp un fr gd) (call (.ref 42) [.ref c]) Q (fun _ _ => False) s := by
  w_top off
  k_with_none
  (k_with "exec For Name Call cons nil" => (k_here; (with_unfolding_all refine' for_exec ?_ ?hs_z46); (case hs_z46 => (intro _; with_unfolding_all rfl))))
  (k_with "exec For Name Call cons nil" => (k_here; (with_unfolding_all refine' for_exec ?_ ?hs_z47); (case hs_z47 => (intro _; with_unfolding_all rfl))))
  (k_with "exec For Name Call cons nil" => (k_here; (with_unfolding_all refine' for_exec ?_ ?hs_z48); (case hs_z48 => (intro _; with_unfolding_all rfl))))
  (k_with "exec For Name Call cons nil" => (k_here; (with_unfolding_all refine' for_exec ?_ ?hs_z49); (case hs_z49 => (intro _; with_unfolding_all rfl))))
  (k_with "exec For Name Call cons nil" => (k_here; (with_unfolding_all refine' for_exec ?_ ?hs_z50); (case hs_z50 => (intro _; with_unfolding_all rfl))))
  (k_with "exec For Name Call cons nil" => (k_here; (with_unfolding_all refine' for_exec ?_ ?hs_z51); (case hs_z51 => (intro _; with_unfolding_all rfl))))
  (k_with "call builtin:len" => (k_here; (with_reducible show wpAny _ _ (call (Value.builtin "len") [Value.ref _]) _ _ _); k_dflt (refine' len_list ?hl_z52 ?hf_z52 ?_); (case hl_z52 => is_list); (case hf_z52 => (simp only [List.size_toArray]; omega)); (try simp only [List.size_toArray])))
  (k_with "call builtin:len" => (k_here; (with_reducible show wpAny _ _ (call (Value.builtin "len") [Value.ref _]) _ _ _); k_dflt (refine' len_list ?hl_z53 ?hf_z53 ?_); (case hl_z53 => is_list); (case hf_z53 => (simp only [List.size_toArray]; omega)); (try simp only [List.size_toArray])))
  (k_with "call builtin:len" => (k_here; (with_reducible show wpAny _ _ (call (Value.builtin "len") [Value.ref _]) _ _ _); k_dflt (refine' len_list ?hl_z54 ?hf_z54 ?_); (case hl_z54 => is_list); (case hf_z54 => (simp only [List.size_toArray]; omega)); (try simp only [List.size_toArray])))
  (k_with "call builtin:len" => (k_here; (with_reducible show wpAny _ _ (call (Value.builtin "len") [Value.ref _]) _ _ _); k_dflt (refine' len_list ?hl_z55 ?hf_z55 ?_); (case hl_z55 => is_list); (case hf_z55 => (simp only [List.size_toArray]; omega)); (try simp only [List.size_toArray])))
  (k_with "call builtin:len" => (k_here; (with_reducible show wpAny _ _ (call (Value.builtin "len") [Value.ref _]) _ _ _); k_dflt (refine' len_list ?hl_z56 ?hf_z56 ?_); (case hl_z56 => is_list); (case hf_z56 => (simp only [List.size_toArray]; omega)); (try simp only [List.size_toArray])))
  (k_with "call builtin:len" => (k_here; (with_reducible show wpAny _ _ (call (Value.builtin "len") [Value.ref _]) _ _ _); k_dflt (refine' len_list ?hl_z57 ?hf_z57 ?_); (case hl_z57 => is_list); (case hf_z57 => (simp only [List.size_toArray]; omega)); (try simp only [List.size_toArray])))
  (k_with "call ref" => (k_here; (with_reducible show wpAny _ _ (call (Value.ref 21) [_]) _ _ _); (with_unfolding_all refine' targets_use (xs := [_, _]) ?hh_z58 ?hdp_z58 ?F_z58 ?X_z58 ?T_z58 ?N_z58 ?hT_z58 ?hoff_z58 ?hxs_z58 ?hr_z58 ?_); (case hh_z58 => with_unfolding_all exact rfl); (case hdp_z58 => ((try simp only [depth_under_make, depth_under_kw, depth_in1, depth_deeper]); (try dsimp only [Ar]); omega)); (case F_z58 => k_asm); (case X_z58 => k_asm); (case T_z58 => k_asm); (case N_z58 => k_asm); (case hoff_z58 => assumption); (case hT_z58 => exact .cons (.cons .here)); (case hxs_z58 => (repeat (first | with_unfolding_all exact List.forall_mem_nil _ | (refine' List.forall_mem_cons.mpr ⟨⟨_, ?q_z58⟩, ?_⟩; (case q_z58 => k_dflt k_mem))))); (case hr_z58 => assumption); k_whole; intro r_z58 its_z58 h'_z58 tk₁_z58 rest'_z58 F'_z58 N'_z58 hoff'_z58 hsub_z58 hsrc_z58 hits_z58; (try k_sweep)))
  (k_with "call ref" => (k_here; (with_reducible show wpAny _ _ (call (Value.ref 21) [_]) _ _ _); (with_unfolding_all refine' targets_use (xs := [_, _]) ?hh_z59 ?hdp_z59 ?F_z59 ?X_z59 ?T_z59 ?N_z59 ?hT_z59 ?hoff_z59 ?hxs_z59 ?hr_z59 ?_); (case hh_z59 => with_unfolding_all exact rfl); (case hdp_z59 => ((try simp only [depth_under_make, depth_under_kw, depth_in1, depth_deeper]); (try dsimp only [Ar]); omega)); (case F_z59 => k_asm); (case X_z59 => k_asm); (case T_z59 => k_asm); (case N_z59 => k_asm); (case hoff_z59 => assumption); (case hT_z59 => exact .cons (.cons .here)); (case hxs_z59 => (repeat (first | with_unfolding_all exact List.forall_mem_nil _ | (refine' List.forall_mem_cons.mpr ⟨⟨_, ?q_z59⟩, ?_⟩; (case q_z59 => k_dflt k_mem))))); (case hr_z59 => assumption); k_whole; intro r_z59 its_z59 h'_z59 tk₁_z59 rest'_z59 F'_z59 N'_z59 hoff'_z59 hsub_z59 hsrc_z59 hits_z59; (try k_sweep)))
  (k_with "call ref" => (k_here; (with_reducible show wpAny _ _ (call (Value.ref 21) [_]) _ _ _); (with_unfolding_all refine' targets_use (xs := [_, _]) ?hh_z60 ?hdp_z60 ?F_z60 ?X_z60 ?T_z60 ?N_z60 ?hT_z60 ?hoff_z60 ?hxs_z60 ?hr_z60 ?_); (case hh_z60 => with_unfolding_all exact rfl); (case hdp_z60 => ((try simp only [depth_under_make, depth_under_kw, depth_in1, depth_deeper]); (try dsimp only [Ar]); omega)); (case F_z60 => k_asm); (case X_z60 => k_asm); (case T_z60 => k_asm); (case N_z60 => k_asm); (case hoff_z60 => assumption); (case hT_z60 => exact .cons (.cons .here)); (case hxs_z60 => (repeat (first | with_unfolding_all exact List.forall_mem_nil _ | (refine' List.forall_mem_cons.mpr ⟨⟨_, ?q_z60⟩, ?_⟩; (case q_z60 => k_dflt k_mem))))); (case hr_z60 => assumption); k_whole; intro r_z60 its_z60 h'_z60 tk₁_z60 rest'_z60 F'_z60 N'_z60 hoff'_z60 hsub_z60 hsrc_z60 hits_z60; (try k_sweep)))
  (k_with "call ref" => (k_here; (with_reducible show wpAny _ _ (call (Value.ref 21) [_]) _ _ _); (with_unfolding_all refine' targets_use (xs := [_, _]) ?hh_z61 ?hdp_z61 ?F_z61 ?X_z61 ?T_z61 ?N_z61 ?hT_z61 ?hoff_z61 ?hxs_z61 ?hr_z61 ?_); (case hh_z61 => with_unfolding_all exact rfl); (case hdp_z61 => ((try simp only [depth_under_make, depth_under_kw, depth_in1, depth_deeper]); (try dsimp only [Ar]); omega)); (case F_z61 => k_asm); (case X_z61 => k_asm); (case T_z61 => k_asm); (case N_z61 => k_asm); (case hoff_z61 => assumption); (case hT_z61 => exact .cons (.cons .here)); (case hxs_z61 => (repeat (first | with_unfolding_all exact List.forall_mem_nil _ | (refine' List.forall_mem_cons.mpr ⟨⟨_, ?q_z61⟩, ?_⟩; (case q_z61 => k_dflt k_mem))))); (case hr_z61 => assumption); k_whole; intro r_z61 its_z61 h'_z61 tk₁_z61 rest'_z61 F'_z61 N'_z61 hoff'_z61 hsub_z61 hsrc_z61 hits_z61; (try k_sweep)))
  (k_with "call ref" => (k_here; (with_reducible show wpAny _ _ (call (Value.ref 21) [_]) _ _ _); (with_unfolding_all refine' targets_use (xs := [_, _]) ?hh_z62 ?hdp_z62 ?F_z62 ?X_z62 ?T_z62 ?N_z62 ?hT_z62 ?hoff_z62 ?hxs_z62 ?hr_z62 ?_); (case hh_z62 => with_unfolding_all exact rfl); (case hdp_z62 => ((try simp only [depth_under_make, depth_under_kw, depth_in1, depth_deeper]); (try dsimp only [Ar]); omega)); (case F_z62 => k_asm); (case X_z62 => k_asm); (case T_z62 => k_asm); (case N_z62 => k_asm); (case hoff_z62 => assumption); (case hT_z62 => exact .cons (.cons .here)); (case hxs_z62 => (repeat (first | with_unfolding_all exact List.forall_mem_nil _ | (refine' List.forall_mem_cons.mpr ⟨⟨_, ?q_z62⟩, ?_⟩; (case q_z62 => k_dflt k_mem))))); (case hr_z62 => assumption); k_whole; intro r_z62 its_z62 h'_z62 tk₁_z62 rest'_z62 F'_z62 N'_z62 hoff'_z62 hsub_z62 hsrc_z62 hits_z62; (try k_sweep)))
  (k_with "call ref" => (k_here; (with_reducible show wpAny _ _ (call (Value.ref 21) [_]) _ _ _); (with_unfolding_all refine' targets_use (xs := [_, _]) ?hh_z63 ?hdp_z63 ?F_z63 ?X_z63 ?T_z63 ?N_z63 ?hT_z63 ?hoff_z63 ?hxs_z63 ?hr_z63 ?_); (case hh_z63 => with_unfolding_all exact rfl); (case hdp_z63 => ((try simp only [depth_under_make, depth_under_kw, depth_in1, depth_deeper]); (try dsimp only [Ar]); omega)); (case F_z63 => k_asm); (case X_z63 => k_asm); (case T_z63 => k_asm); (case N_z63 => k_asm); (case hoff_z63 => assumption); (case hT_z63 => exact .cons (.cons .here)); (case hxs_z63 => (repeat (first | with_unfolding_all exact List.forall_mem_nil _ | (refine' List.forall_mem_cons.mpr ⟨⟨_, ?q_z63⟩, ?_⟩; (case q_z63 => k_dflt k_mem))))); (case hr_z63 => assumption); k_whole; intro r_z63 its_z63 h'_z63 tk₁_z63 rest'_z63 F'_z63 N'_z63 hoff'_z63 hsub_z63 hsrc_z63 hits_z63; (try k_sweep)))
  (k_with "subscriptTail" => (k_here; (with_reducible show wpAny _ _ (subscriptTail _ _ (Value.ref _) (Value.int _ _)) _ _ _); k_dflt (refine' item_lst ?hl_z64 ?h0_z64 ?h1_z64 ?hx_z64 ?_ ?hs_z64); (case hl_z64 => is_list); (case h0_z64 => omega); (case h1_z64 => omega); (case hx_z64 => k_dflt assumption); (case hs_z64 => with_unfolding_all rfl)))
  (k_with "subscriptTail" => (k_here; (with_reducible show wpAny _ _ (subscriptTail _ _ (Value.ref _) (Value.int _ _)) _ _ _); k_dflt (refine' item_lst ?hl_z65 ?h0_z65 ?h1_z65 ?hx_z65 ?_ ?hs_z65); (case hl_z65 => is_list); (case h0_z65 => omega); (case h1_z65 => omega); (case hx_z65 => k_dflt assumption); (case hs_z65 => with_unfolding_all rfl)))
  (k_with "subscriptTail" => (k_here; (with_reducible show wpAny _ _ (subscriptTail _ _ (Value.ref _) (Value.int _ _)) _ _ _); k_dflt (refine' item_lst ?hl_z66 ?h0_z66 ?h1_z66 ?hx_z66 ?_ ?hs_z66); (case hl_z66 => is_list); (case h0_z66 => omega); (case h1_z66 => omega); (case hx_z66 => k_dflt assumption); (case hs_z66 => with_unfolding_all rfl)))
  (k_with "subscriptTail" => (k_here; (with_reducible show wpAny _ _ (subscriptTail _ _ (Value.ref _) (Value.int _ _)) _ _ _); k_dflt (refine' item_lst ?hl_z67 ?h0_z67 ?h1_z67 ?hx_z67 ?_ ?hs_z67); (case hl_z67 => is_list); (case h0_z67 => omega); (case h1_z67 => omega); (case hx_z67 => k_dflt assumption); (case hs_z67 => with_unfolding_all rfl)))
  (k_with "subscriptTail" => (k_here; (with_reducible show wpAny _ _ (subscriptTail _ _ (Value.ref _) (Value.int _ _)) _ _ _); k_dflt (refine' item_lst ?hl_z68 ?h0_z68 ?h1_z68 ?hx_z68 ?_ ?hs_z68); (case hl_z68 => is_list); (case h0_z68 => omega); (case h1_z68 => omega); (case hx_z68 => k_dflt assumption); (case hs_z68 => with_unfolding_all rfl)))
  (k_with "subscriptTail" => (k_here; (with_reducible show wpAny _ _ (subscriptTail _ _ (Value.ref _) (Value.int _ _)) _ _ _); k_dflt (refine' item_lst ?hl_z69 ?h0_z69 ?h1_z69 ?hx_z69 ?_ ?hs_z69); (case hl_z69 => is_list); (case h0_z69 => omega); (case h1_z69 => omega); (case hx_z69 => k_dflt assumption); (case hs_z69 => with_unfolding_all rfl)))
  (k_with "call builtin:list.append" => (k_here; (with_reducible show wpAny _ _ (call (Value.builtin _) [Value.ref _, _]) _ _ _); k_dflt (refine' append_K ?k1_z70 ?k2_z70 ?k3_z70 ?_ ?z_z70; (case k1_z70 => k_asm); (case k2_z70 => k_asm); (case k3_z70 => k_upd); (case z_z70 => (rw [PySem.sizeLine_eq]; simp only [List.size_toArray]; omega)); k_whole); intro h'_z70 F'_z70 N'_z70; (try simp only [List.push_toArray] at N'_z70); (try k_sweep)))
  (k_with "call builtin:list.append" => (k_here; (with_reducible show wpAny _ _ (call (Value.builtin _) [Value.ref _, _]) _ _ _); k_dflt (refine' append_K ?k1_z71 ?k2_z71 ?k3_z71 ?_ ?z_z71; (case k1_z71 => k_asm); (case k2_z71 => k_asm); (case k3_z71 => k_upd); (case z_z71 => (rw [PySem.sizeLine_eq]; simp only [List.size_toArray]; omega)); k_whole); intro h'_z71 F'_z71 N'_z71; (try simp only [List.push_toArray] at N'_z71); (try k_sweep)))
  (k_with "call builtin:list.append" => (k_here; (with_reducible show wpAny _ _ (call (Value.builtin _) [Value.ref _, _]) _ _ _); k_dflt (refine' append_K ?k1_z72 ?k2_z72 ?k3_z72 ?_ ?z_z72; (case k1_z72 => k_asm); (case k2_z72 => k_asm); (case k3_z72 => k_upd); (case z_z72 => (rw [PySem.sizeLine_eq]; simp only [List.size_toArray]; omega)); k_whole); intro h'_z72 F'_z72 N'_z72; (try simp only [List.push_toArray] at N'_z72); (try k_sweep)))
  (k_with "call builtin:list.append" => (k_here; (with_reducible show wpAny _ _ (call (Value.builtin _) [Value.ref _, _]) _ _ _); k_dflt (refine' append_K ?k1_z73 ?k2_z73 ?k3_z73 ?_ ?z_z73; (case k1_z73 => k_asm); (case k2_z73 => k_asm); (case k3_z73 => k_upd); (case z_z73 => (rw [PySem.sizeLine_eq]; simp only [List.size_toArray]; omega)); k_whole); intro h'_z73 F'_z73 N'_z73; (try simp only [List.push_toArray] at N'_z73); (try k_sweep)))
  (k_with "call builtin:list.append" => (k_here; (with_reducible show wpAny _ _ (call (Value.builtin _) [Value.ref _, _]) _ _ _); k_dflt (refine' append_K ?k1_z74 ?k2_z74 ?k3_z74 ?_ ?z_z74; (case k1_z74 => k_asm); (case k2_z74 => k_asm); (case k3_z74 => k_upd); (case z_z74 => (rw [PySem.sizeLine_eq]; simp only [List.size_toArray]; omega)); k_whole); intro h'_z74 F'_z74 N'_z74; (try simp only [List.push_toArray] at N'_z74); (try k_sweep)))
  (k_with "call builtin:list.append" => (k_here; (with_reducible show wpAny _ _ (call (Value.builtin _) [Value.ref _, _]) _ _ _); k_dflt (refine' append_K ?k1_z75 ?k2_z75 ?k3_z75 ?_ ?z_z75; (case k1_z75 => k_asm); (case k2_z75 => k_asm); (case k3_z75 => k_upd); (case z_z75 => (rw [PySem.sizeLine_eq]; simp only [List.size_toArray]; omega)); k_whole); intro h'_z75 F'_z75 N'_z75; (try simp only [List.push_toArray] at N'_z75); (try k_sweep)))
  (k_with "subscriptTail" => (k_here; (with_reducible show wpAny _ _ (subscriptTail _ _ (Value.ref _) (Value.int (-1) _)) _ _ _); k_dflt (refine' item_lst_last ?hl_z76 ?hx_z76 ?hz_z76 ?_ ?hs_z76); (case hl_z76 => is_list); (case hx_z76 => k_dflt assumption); (case hz_z76 => omega); (case hs_z76 => with_unfolding_all rfl)))
  (k_with "subscriptTail" => (k_here; (with_reducible show wpAny _ _ (subscriptTail _ _ (Value.ref _) (Value.int (-1) _)) _ _ _); k_dflt (refine' item_lst_last ?hl_z77 ?hx_z77 ?hz_z77 ?_ ?hs_z77); (case hl_z77 => is_list); (case hx_z77 => k_dflt assumption); (case hz_z77 => omega); (case hs_z77 => with_unfolding_all rfl)))
  (k_with "subscriptTail" => (k_here; (with_reducible show wpAny _ _ (subscriptTail _ _ (Value.ref _) (Value.int (-1) _)) _ _ _); k_dflt (refine' item_lst_last ?hl_z78 ?hx_z78 ?hz_z78 ?_ ?hs_z78); (case hl_z78 => is_list); (case hx_z78 => k_dflt assumption); (case hz_z78 => omega); (case hs_z78 => with_unfolding_all rfl)))
  (k_with "subscriptTail" => (k_here; (with_reducible show wpAny _ _ (subscriptTail _ _ (Value.ref _) (Value.int (-1) _)) _ _ _); k_dflt (refine' item_lst_last ?hl_z79 ?hx_z79 ?hz_z79 ?_ ?hs_z79); (case hl_z79 => is_list); (case hx_z79 => k_dflt assumption); (case hz_z79 => omega); (case hs_z79 => with_unfolding_all rfl)))
  (k_with "subscriptTail" => (k_here; (with_reducible show wpAny _ _ (subscriptTail _ _ (Value.ref _) (Value.int (-1) _)) _ _ _); k_dflt (refine' item_lst_last ?hl_z80 ?hx_z80 ?hz_z80 ?_ ?hs_z80); (case hl_z80 => is_list); (case hx_z80 => k_dflt assumption); (case hz_z80 => omega); (case hs_z80 => with_unfolding_all rfl)))
  (k_with "subscriptTail" => (k_here; (with_reducible show wpAny _ _ (subscriptTail _ _ (Value.ref _) (Value.int (-1) _)) _ _ _); k_dflt (refine' item_lst_last ?hl_z81 ?hx_z81 ?hz_z81 ?_ ?hs_z81); (case hl_z81 => is_list); (case hx_z81 => k_dflt assumption); (case hz_z81 => omega); (case hs_z81 => with_unfolding_all rfl)))
  (k_with "call ref" => (k_here; (with_reducible show wpAny _ _ (call (Value.ref 28) [_]) _ _ _); (with_unfolding_all refine' falls_use (S := At _) ?hh_z82 ?hdp_z82 ?F_z82 ?X_z82 ?T_z82 ?N_z82 ?hS_z82 ?hr_z82 ?_); (case hh_z82 => with_unfolding_all exact rfl); (case hdp_z82 => ((try simp only [depth_under_make, depth_under_kw, depth_in1, depth_deeper]); (try dsimp only [Ar]); omega)); (case F_z82 => k_asm); (case X_z82 => k_asm); (case T_z82 => k_asm); (case N_z82 => k_asm); (case hr_z82 => k_dflt assumption); (case hS_z82 => exact Fr.keep (by k_asm)); k_whole; intro h'_z82 tk₁_z82 F'_z82 N'_z82; (try k_sweep)))
  (k_with "call ref" => (k_here; (with_reducible show wpAny _ _ (call (Value.ref 28) [_]) _ _ _); (with_unfolding_all refine' falls_use (S := At _) ?hh_z83 ?hdp_z83 ?F_z83 ?X_z83 ?T_z83 ?N_z83 ?hS_z83 ?hr_z83 ?_); (case hh_z83 => with_unfolding_all exact rfl); (case hdp_z83 => ((try simp only [depth_under_make, depth_under_kw, depth_in1, depth_deeper]); (try dsimp only [Ar]); omega)); (case F_z83 => k_asm); (case X_z83 => k_asm); (case T_z83 => k_asm); (case N_z83 => k_asm); (case hr_z83 => k_dflt assumption); (case hS_z83 => exact Fr.keep (by k_asm)); k_whole; intro h'_z83 tk₁_z83 F'_z83 N'_z83; (try k_sweep)))
  (k_with "call ref" => (k_here; (with_reducible show wpAny _ _ (call (Value.ref 28) [_]) _ _ _); (with_unfolding_all refine' falls_use (S := At _) ?hh_z84 ?hdp_z84 ?F_z84 ?X_z84 ?T_z84 ?N_z84 ?hS_z84 ?hr_z84 ?_); (case hh_z84 => with_unfolding_all exact rfl); (case hdp_z84 => ((try simp only [depth_under_make, depth_under_kw, depth_in1, depth_deeper]); (try dsimp only [Ar]); omega)); (case F_z84 => k_asm); (case X_z84 => k_asm); (case T_z84 => k_asm); (case N_z84 => k_asm); (case hr_z84 => k_dflt assumption); (case hS_z84 => exact Fr.keep (by k_asm)); k_whole; intro h'_z84 tk₁_z84 F'_z84 N'_z84; (try k_sweep)))
  (k_with "call ref" => (k_here; (with_reducible show wpAny _ _ (call (Value.ref 28) [_]) _ _ _); (with_unfolding_all refine' falls_use (S := At _) ?hh_z85 ?hdp_z85 ?F_z85 ?X_z85 ?T_z85 ?N_z85 ?hS_z85 ?hr_z85 ?_); (case hh_z85 => with_unfolding_all exact rfl); (case hdp_z85 => ((try simp only [depth_under_make, depth_under_kw, depth_in1, depth_deeper]); (try dsimp only [Ar]); omega)); (case F_z85 => k_asm); (case X_z85 => k_asm); (case T_z85 => k_asm); (case N_z85 => k_asm); (case hr_z85 => k_dflt assumption); (case hS_z85 => exact Fr.keep (by k_asm)); k_whole; intro h'_z85 tk₁_z85 F'_z85 N'_z85; (try k_sweep)))
  (k_with "call ref" => (k_here; (with_reducible show wpAny _ _ (call (Value.ref 28) [_]) _ _ _); (with_unfolding_all refine' falls_use (S := At _) ?hh_z86 ?hdp_z86 ?F_z86 ?X_z86 ?T_z86 ?N_z86 ?hS_z86 ?hr_z86 ?_); (case hh_z86 => with_unfolding_all exact rfl); (case hdp_z86 => ((try simp only [depth_under_make, depth_under_kw, depth_in1, depth_deeper]); (try dsimp only [Ar]); omega)); (case F_z86 => k_asm); (case X_z86 => k_asm); (case T_z86 => k_asm); (case N_z86 => k_asm); (case hr_z86 => k_dflt assumption); (case hS_z86 => exact Fr.keep (by k_asm)); k_whole; intro h'_z86 tk₁_z86 F'_z86 N'_z86; (try k_sweep)))
  (k_with "call ref" => (k_here; (with_reducible show wpAny _ _ (call (Value.ref 28) [_]) _ _ _); (with_unfolding_all refine' falls_use (S := At _) ?hh_z87 ?hdp_z87 ?F_z87 ?X_z87 ?T_z87 ?N_z87 ?hS_z87 ?hr_z87 ?_); (case hh_z87 => with_unfolding_all exact rfl); (case hdp_z87 => ((try simp only [depth_under_make, depth_under_kw, depth_in1, depth_deeper]); (try dsimp only [Ar]); omega)); (case F_z87 => k_asm); (case X_z87 => k_asm); (case T_z87 => k_asm); (case N_z87 => k_asm); (case hr_z87 => k_dflt assumption); (case hS_z87 => exact Fr.keep (by k_asm)); k_whole; intro h'_z87 tk₁_z87 F'_z87 N'_z87; (try k_sweep)))
  have _hx : (PySem.Challenge.rw_nn0292_01 = PySem.Challenge.rw_nn0292_01) ∧ (Mine.hd.heap_39 = Mine.hd.heap_39) := by k_fill; exact ⟨rfl, rfl⟩
  refine' enter [] [(Str.ofString "code", .ref c)] hk₀ X₀ T₀ (by simp) ?k6 ?k7 ?k8 ?k9 ?kB ?_ ?c2 ?c3 ?c4 ?c5
  case k6 => k_is
  case k7 => k_is
  case k8 => (show dp < recursionLimit; omega)
  case k9 => exact BindsTo.of_eq rfl
  case c5 => decide
  case kB => exact locs rfl
  case c2 => exact rfl
  case c3 => exact rfl
  case c4 => exact rfl
  intro g L' h₁ tk₀ G F N X T
  try dsimp only
  k_fold
  replace G : ∀ b o, s.heap.get? b = some o → b ∉ [] → g.get? b = some o := G
  have hcg : g.IsList c vs.toArray := by
    obtain ⟨o, ho, r⟩ := hc
    exact ⟨o, G _ _ ho (by simp), r⟩
  have hrg : RowsAt (At g) vs rows := hr.mono fun a o _ e => G a o e (by simp)
  have hln := hrg.1
  clear hk₀ X₀ T₀ hc hr
  k_steps
  rename IsRange _ _ _ _ _ _ _ _ => hr'
  refine' for_range (x := Str.ofString "address") (J := TfO _ _ _) ?hh hr' ?hb ?hn ?hx ?hp ?F ?N ?h0 ?turn ?done
  case hh => rfl
  case hb => rfl
  case hn => omega
  case hx => rfl
  case hp => rfl
  case F => assumption
  case N => assumption
  case h0 => refine tfo_start hrg ?_ ?_ <;> rfl
  case turn =>
    clear hr'
    intro i t m₁ nx h tk I oI hi hJ off F' N'
    k_sweep
    obtain ⟨fs, n, rest, e1, hoff, hfs, hfl, e2, e3⟩ := hJ
    subst e1
    obtain ⟨mo, e4⟩ := form2 e2 e3
    subst e4
    clear e2 e3
    have q1 := neN (off _ (List.Mem.head _))
    replace hoff := Off.more hoff fun p hp => off p (.tail _ hp)
    obtain ⟨v, hv, hrow⟩ := hrg.at (hln ▸ hi)
    show wpAny _ _ _ _ _ _
    k_fold
    k_steps
    rename SrcTup _ _ _ _ => hsrc
    rename IntsAre _ _ => hits
    rename List Value => its
    rename Off _ _ => hoff'
    rename Sub _ _ => hsub
    have htwo := hrow.two
    have hitl := hits.length
    refine' for_tuple (x := Str.ofString "target") (J := TfI _ _ _ _ _ _ _ rows i _ rows[i]) ?hh ?hx ?hp ?F ?N ?h0 ?hS ?turn2 ?done2
    case hh => rfl
    case hx => rfl
    case hp => rfl
    case F => assumption
    case N => assumption
    case h0 => refine tfi_start hoff' hsrc hfs hfl hits hsub ?_ ?_ ?_ <;> rfl
    case hS => exact tfi_src
    case turn2 =>
      intro k v m₁ nx h tk I2 oI2 hv2 hJ off2 F' N'
      k_sweep
      clear hfs hfl hoff hoff' hsub hsrc
      obtain ⟨fs, n, rest, e1, hoff, hsrc, hfs, hfl, e2, e3, e4⟩ := hJ
      subst e1
      obtain ⟨mo, e5⟩ := form3 e2 e3 e4
      subst e5
      clear e2 e3 e4
      have q2 := neN (off2 _ (List.Mem.head _))
      have q3 := neN (off2 _ (List.Mem.tail _ (List.Mem.head _)))
      replace hoff := Off.more hoff fun p hp => off2 p (.tail _ (.tail _ hp))
      obtain ⟨tv, tt, e6, hv3⟩ := ints_get hits hv2
      subst e6
      have hk : k < its.length := by
        have := List.getElem?_eq_some_iff.mp hv2
        exact this.1
      show wpAny _ _ _ _ _ _
      k_fold
      k_steps
      · rename News _ _ _ _ => N9
        refine TurnEnd.intro _ (by assumption) (newsRot4 N9) (allNe (allNe (allNe (fun p hp => off2 p (.tail _ (.tail _ hp))) ?_) q3) q2) ?_
        · k_ne
        · refine tfi_yes (hoff.sub (by simp)) hsrc hfs hfl hv3 (.inl (by assumption)) ?_ ?_ rfl rfl rfl <;> omega
      · rename News _ _ _ _ => N9
        refine TurnEnd.intro _ (by assumption) (newsRot4 N9) (allNe (allNe (allNe (fun p hp => off2 p (.tail _ (.tail _ hp))) ?_) q3) q2) ?_
        · k_ne
        · refine tfi_yes (hoff.sub (by simp)) hsrc hfs hfl hv3 (.inr (by omega)) ?_ ?_ rfl rfl rfl <;> omega
      · rename News _ _ _ _ => N9
        refine TurnEnd.intro _ (by assumption) N9 off2 ?_
        exact tfi_no (hoff.sub (by simp)) hsrc hfs hfl hv3 (by assumption) (by omega) rfl rfl rfl
    case done2 =>
      intro h tk m₁ nx F' N' hJ
      k_sweep
      clear hfs hfl hoff hoff' hsub hsrc
      obtain ⟨fs, n, rest, e1, hoff, hsrc, hfs, hfl, e2, e3, e4⟩ := hJ
      subst e1
      obtain ⟨mo, e5⟩ := form3 e2 e3 e4
      subst e5
      clear e2 e3 e4
      k_steps
      rename News _ _ _ _ => N9
      refine TurnEnd.intro _ (by assumption) N9 (allNe (hoff.ne (by simp)) q1) ?_
      exact tfo_next (hln ▸ hi) hoff hfs hfl hitl htwo rfl rfl
  case done =>
    clear hr'
    intro hp tk m₁ nx F' N' hJ
    k_sweep
    obtain ⟨fs, n, rest, e1, hoff, hfs, hfl, e2, e3⟩ := hJ
    subst e1
    obtain ⟨mo, e4⟩ := form2 e2 e3
    subst e4
    clear e2 e3
    rcases List.eq_nil_or_concat vs with e0 | ⟨us, v, e0⟩
    · subst e0
      have e1 : rows = [] := List.eq_nil_of_length_eq_zero hln.symm
      subst e1
      k_steps
      all_goals (show Q _ _)
      · rename News _ _ _ _ => N9
        have hN := fresh_of G N9 (.tail _ (.head _)) (by simp)
        exact h _ _ _ _ _ (back G (by assumption)) hN.1 hN.2 ((tf_yes hfs rfl rfl).mono fun a o _ e => fresh_of G N9 (mem_skip e) (by simp))
    · rw [List.concat_eq_append] at e0
      have hv : vs[vs.length - 1]? = some v := by rw [e0]; simp
      have hpos : 0 < vs.length := by rw [e0]; simp
      have hlast : vs.getLast? = some v := by rw [e0]; simp
      have hrow := hrg.2 _ _ _ hv (List.getElem?_eq_getElem (by omega))
      k_steps
      all_goals (show Q _ _)
      · exfalso; omega
      · rename News _ _ _ _ => N9
        have hN := fresh_of G N9 (.tail _ (.head _)) (by simp)
        exact h _ _ _ _ _ (back G (by assumption)) hN.1 hN.2 ((tf_yes hfs hln (by rw [endFault_last hln hpos, if_pos (by assumption)])).mono fun a o _ e => fresh_of G N9 (mem_skip e) (by simp))
      · rename News _ _ _ _ => N9
        have hN := fresh_of G N9 (.head _) (by simp)
        exact h _ _ _ _ _ (back G (by assumption)) hN.1 hN.2 ((tf_no hfs hln (by rw [endFault_last hln hpos, if_neg (Bool.eq_false_iff.mp (by assumption))])).mono fun a o _ e => fresh_of G N9 (.tail _ e) (by simp))
end
open PySem PySem.W PySem.Calls PyProof.Rows
set_option Elab.async false
set_option maxRecDepth 100000
set_option maxHeartbeats 1000000
section
def Row.name : Row → Str
  | .set => Str.ofString "set" | .jump _ => Str.ofString "jump" | .unls _ => Str.ofString "unless" | .mtch _ => Str.ofString "match" | .again _ => Str.ofString "again" | .enter _ _ => Str.ofString "enter"
  | .leave _ => Str.ofString "leave" | .fork _ => Str.ofString "fork" | .ende => Str.ofString "end" | .ret => Str.ofString "return" | .join => Str.ofString "join"
def Row.isFork : Row → Bool
  | .fork _ => true
  | _ => false
def Row.ends : Row → Bool
  | .ende | .ret => true
  | _ => false
def nextSc (row : Row) (sc : List Int) : List Int := if row.isFork = true then [] else sc

inductive Reach (rows : List Row) : Int → List Int → Prop
  | start : Reach rows 0 []
  | tgt {a sc row t} : Reach rows a sc → rows[a.toNat]? = some row → t ∈ row.targets → Reach rows t (nextSc row sc)
  | fall {a sc row sc'} : Reach rows a sc → rows[a.toNat]? = some row → row.falls = true → behind row sc = some sc' → Reach rows (a + 1) sc'

def okRow (row : Row) (sc : List Int) : Prop := behind row sc ≠ none ∧ (row.ends = true → sc = [])
def Good (rows : List Row) : Prop := (∀ a sc sc', Reach rows a sc → Reach rows a sc' → sc = sc') ∧ ∀ a sc row, Reach rows a sc → rows[a.toNat]? = some row → okRow row sc

theorem due_nil {rows : List Row} (h : due rows = []) : (∀ (i : Nat) (hi : i < rows.length) (t : Int), t ∈ rows[i].targets → 0 ≤ t ∧ t < rows.length) ∧ 0 < rows.length ∧ ∀ (i : Nat) (hi : i < rows.length), rows[i].falls = true → i + 1 < rows.length := by
  unfold due at h
  obtain ⟨h1, h2⟩ := List.append_eq_nil_iff.mp h
  have hpos : 0 < rows.length := by
    rcases Nat.eq_zero_or_pos rows.length with e | e
    · have : rows = [] := List.eq_nil_of_length_eq_zero e
      subst this
      simp [endFault] at h2
    · exact e
  refine ⟨?_, hpos, ?_⟩
  · intro i hi t ht
    unfold tfTo at h1
    have h3 := List.flatMap_eq_nil_iff.mp h1 i (List.mem_range.mpr hi)
    have e : rows.getD i .set = rows[i] := by simp [List.getD, List.getElem?_eq_getElem hi]
    rw [e] at h3
    have h4 := List.flatMap_eq_nil_iff.mp h3 t ht
    unfold badOne at h4
    split at h4
    · cases h4
    · omega
  · intro i hi hf
    rcases Nat.lt_or_ge (i + 1) rows.length with h5 | h5
    · exact h5
    · exfalso
      have e : i = rows.length - 1 := by omega
      subst e
      unfold endFault at h2
      rw [List.getLast?_eq_getElem?, List.getElem?_eq_getElem hi] at h2
      simp [hf] at h2

theorem Reach.within {rows : List Row} (hd : due rows = []) {a : Int} {sc : List Int} (h : Reach rows a sc) : 0 ≤ a ∧ a < rows.length := by
  obtain ⟨h1, h2, h3⟩ := due_nil hd
  induction h with
  | start => exact ⟨Int.le_refl _, by omega⟩
  | @tgt a' sc' row t hr hg ht ih =>
    obtain ⟨hi, e⟩ := List.getElem?_eq_some_iff.mp hg
    subst e
    exact h1 _ hi _ ht
  | @fall a' sc' row sc'' hr hg hf hb ih =>
    obtain ⟨hi, e⟩ := List.getElem?_eq_some_iff.mp hg
    subst e
    have hl := h3 _ hi hf
    have h0 : 0 ≤ a' := ih.1
    omega

abbrev Kn := List (Int × List Int)
def Closed (rows : List Row) (known : Kn) (P : Int × List Int → Prop) : Prop :=
  P (0, []) ∧ ∀ p ∈ known, ∀ row, rows[p.1.toNat]? = some row → okRow row p.2 ∧ (∀ t ∈ row.targets, P (t, nextSc row p.2)) ∧ (row.falls = true → ∀ sc', behind row p.2 = some sc' → P (p.1 + 1, sc'))

structure Inv (rows : List Row) (known pend : Kn) (bad : Bool) : Prop where
  kn : ∀ p ∈ known, Reach rows p.1 p.2
  pe : ∀ p ∈ pend, Reach rows p.1 p.2
  isBad : bad = true → ¬ Good rows
  isGood : bad = false → Closed rows known fun p => p ∈ known ∨ p ∈ pend
  nodup : (known.map (·.1)).Nodup
  small : ∀ p ∈ pend, p.2.length ≤ known.length

theorem Inv.start (rows : List Row) : Inv rows [] [(0, [])] false where
  kn := fun _ h => nomatch h
  pe := fun p h => by rw [List.mem_singleton.mp h]; exact .start
  isBad := fun h => nomatch h
  isGood := fun _ => ⟨.inr (.head _), fun _ h => nomatch h⟩
  nodup := .nil
  small := fun p h => by rw [List.mem_singleton.mp h]; exact Nat.zero_le _

theorem closed_good {rows : List Row} {known : Kn} (hk : ∀ p ∈ known, ∀ q ∈ known, p.1 = q.1 → p.2 = q.2) (h : Closed rows known fun p => p ∈ known) : Good rows := by
  have key : ∀ a sc, Reach rows a sc → (a, sc) ∈ known := by
    intro a sc hr
    induction hr with
    | start => exact h.1
    | tgt _ hg ht ih => exact (h.2 _ ih _ hg).2.1 _ ht
    | fall _ hg hf hb ih => exact (h.2 _ ih _ hg).2.2 hf _ hb
  exact ⟨fun a sc sc' h1 h2 => hk _ (key _ _ h1) _ (key _ _ h2) rfl, fun a sc row h1 hg => (h.2 _ (key _ _ h1) _ hg).1⟩

theorem nodup_fun : ∀ {known : Kn}, (known.map (·.1)).Nodup → ∀ p ∈ known, ∀ q ∈ known, p.1 = q.1 → p.2 = q.2
  | [], _, _, hp, _, _, _ => nomatch hp
  | k :: r, hn, p, hp, q, hq, e => by
    rw [List.map_cons, List.nodup_cons] at hn
    rcases List.mem_cons.mp hp with hp' | hp2
    · rcases List.mem_cons.mp hq with hq' | hq2
      · rw [hp', hq']
      · exact absurd (List.mem_map.mpr ⟨q, hq2, e.symm.trans (congrArg Prod.fst hp')⟩) hn.1
    · rcases List.mem_cons.mp hq with hq' | hq2
      · exact absurd (List.mem_map.mpr ⟨p, hp2, e.trans (congrArg Prod.fst hq')⟩) hn.1
      · exact nodup_fun hn.2 p hp2 q hq2 e

theorem Inv.done {rows : List Row} {known : Kn} {bad : Bool} (h : Inv rows known [] bad) : bad = false ↔ Good rows := by
  constructor
  · intro e
    refine closed_good (nodup_fun h.nodup) ?_
    obtain ⟨c1, c2⟩ := h.isGood e
    have no : ∀ p, (p ∈ known ∨ p ∈ ([] : Kn)) → p ∈ known := fun p hp => hp.elim id fun q => nomatch q
    exact ⟨no _ c1, fun p hp row hg => ⟨(c2 p hp row hg).1, fun t ht => no _ ((c2 p hp row hg).2.1 t ht), fun hf sc' hb => no _ ((c2 p hp row hg).2.2 hf sc' hb)⟩⟩
  · intro g
    cases bad with
    | false => rfl
    | true => exact absurd g (h.isBad rfl)

/-- the popped one is known, with the same scopes -/
theorem Inv.same {rows : List Row} {known pend p : Kn} {bad : Bool} {a : Int} {sc : List Int} (h : Inv rows known pend bad) (hp : ∀ x, x ∈ pend ↔ x = (a, sc) ∨ x ∈ p) (hk : (a, sc) ∈ known) : Inv rows known p bad where
  kn := h.kn
  pe := fun q hq => h.pe q ((hp q).mpr (.inr hq))
  isBad := h.isBad
  isGood := fun e => by
    obtain ⟨c1, c2⟩ := h.isGood e
    have no : ∀ q, (q ∈ known ∨ q ∈ pend) → q ∈ known ∨ q ∈ p := fun q hq => hq.elim .inl fun q' => ((hp q).mp q').elim (fun e => .inl (e ▸ hk)) .inr
    exact ⟨no _ c1, fun q hq row hg => ⟨(c2 q hq row hg).1, fun t ht => no _ ((c2 q hq row hg).2.1 t ht), fun hf sc' hb => no _ ((c2 q hq row hg).2.2 hf sc' hb)⟩⟩
  nodup := h.nodup
  small := fun q hq => h.small q ((hp q).mpr (.inr hq))
/-- the popped one is known, with other scopes -/
theorem Inv.differ {rows : List Row} {known pend p : Kn} {bad : Bool} {a : Int} {sc sc₀ : List Int} (h : Inv rows known pend bad) (hp : ∀ x, x ∈ pend ↔ x = (a, sc) ∨ x ∈ p) (hk : (a, sc₀) ∈ known) (hne : sc₀ ≠ sc) : ¬ Good rows ∧ Inv rows known p true := by
  have ng : ¬ Good rows := fun g => hne (g.1 a _ _ (h.kn _ hk) (h.pe _ ((hp _).mpr (.inl rfl))))
  exact ⟨ng, { kn := h.kn, pe := fun q hq => h.pe q ((hp q).mpr (.inr hq)), isBad := fun _ => ng, isGood := (fun e => nomatch e), nodup := h.nodup, small := fun q hq => h.small q ((hp q).mpr (.inr hq)) }⟩

theorem behind_len {row : Row} {sc sc' : List Int} (h : behind row sc = some sc') : sc'.length ≤ sc.length + 1 := by
  cases row with
  | enter c t => simp [behind] at h; subst h; simp
  | leave c =>
    simp only [behind] at h
    split at h
    · cases h; simp; omega
    · cases h
  | _ => simp [behind] at h; subst h; omega

/-- a new one -/
theorem Inv.turn {rows : List Row} {known pend p pend' : Kn} {bad bad' : Bool} {a : Int} {sc : List Int} {row : Row} (h : Inv rows known pend bad) (hp : ∀ x, x ∈ pend ↔ x = (a, sc) ∨ x ∈ p) (hk : ∀ q ∈ known, q.1 ≠ a) (hg : rows[a.toNat]? = some row)
    (hp' : ∀ x, x ∈ pend' ↔ x ∈ p ∨ ((∃ t ∈ row.targets, x = (t, nextSc row sc)) ∨ (row.falls = true ∧ ∃ sc', behind row sc = some sc' ∧ x = (a + 1, sc'))))
    (hb : bad' = false → bad = false ∧ okRow row sc) (hb' : bad' = true → bad = true ∨ ¬ okRow row sc) : Inv rows (known ++ [(a, sc)]) pend' bad' where
  kn := fun q hq => by
    rcases List.mem_append.mp hq with hq | hq
    · exact h.kn q hq
    · rw [List.mem_singleton.mp hq]; exact h.pe _ ((hp _).mpr (.inl rfl))
  pe := fun q hq => by
    have hr := h.pe _ ((hp (a, sc)).mpr (.inl rfl))
    rcases (hp' q).mp hq with hq | ⟨t, ht, rfl⟩ | ⟨hf, sc', hb, rfl⟩
    · exact h.pe q ((hp q).mpr (.inr hq))
    · exact .tgt hr hg ht
    · exact .fall hr hg hf hb
  isBad := fun e => (hb' e).elim h.isBad fun no g => no (g.2 a sc row (h.pe _ ((hp _).mpr (.inl rfl))) hg)
  isGood := fun e => by
    obtain ⟨e1, ok⟩ := hb e
    obtain ⟨c1, c2⟩ := h.isGood e1
    have no : ∀ q, (q ∈ known ∨ q ∈ pend) → q ∈ known ++ [(a, sc)] ∨ q ∈ pend' := fun q hq => hq.elim (fun x => .inl (List.mem_append_left _ x)) fun q' => ((hp q).mp q').elim (fun e => .inl (List.mem_append_right _ (e ▸ .head _))) fun x => .inr ((hp' q).mpr (.inl x))
    refine ⟨no _ c1, fun q hq row' hg' => ?_⟩
    rcases List.mem_append.mp hq with hq | hq
    · exact ⟨(c2 q hq row' hg').1, fun t ht => no _ ((c2 q hq row' hg').2.1 t ht), fun hf sc' hb => no _ ((c2 q hq row' hg').2.2 hf sc' hb)⟩
    · rw [List.mem_singleton.mp hq] at hg' ⊢
      have er : row' = row := Option.some.inj (hg'.symm.trans hg)
      subst er
      exact ⟨ok, fun t ht => .inr ((hp' _).mpr (.inr (.inl ⟨t, ht, rfl⟩))), fun hf sc' hb => .inr ((hp' _).mpr (.inr (.inr ⟨hf, sc', hb, rfl⟩)))⟩
  nodup := by
    rw [List.map_append, List.nodup_append]
    refine ⟨h.nodup, by simp, ?_⟩
    intro x hx y hy e
    obtain ⟨q, hq, rfl⟩ := List.mem_map.mp hx
    simp at hy
    exact hk q hq (e.trans hy)
  small := fun q hq => by
    have hs := h.small _ ((hp (a, sc)).mpr (.inl rfl))
    rw [List.length_append, List.length_singleton]
    rcases (hp' q).mp hq with hq | ⟨t, ht, rfl⟩ | ⟨hf, sc', hb, rfl⟩
    · exact Nat.le_succ_of_le (h.small q ((hp q).mpr (.inr hq)))
    · show (nextSc row sc).length ≤ _
      unfold nextSc
      split
      · exact Nat.zero_le _
      · exact Nat.le_succ_of_le hs
    · have := behind_len hb
      have hs' : sc.length ≤ known.length := hs
      show sc'.length ≤ _
      omega

theorem nodup_le : ∀ (n : Nat) (l : List Int), l.Nodup → (∀ x ∈ l, 0 ≤ x ∧ x < n) → l.length ≤ n
  | 0, l, _, h => by
    cases l with
    | nil => exact Nat.le_refl _
    | cons x r => have := h x (.head _); omega
  | n + 1, l, hn, h => by
    have h1 := nodup_le n (l.erase (n : Int)) (hn.erase _) fun x hx => by
      have h2 := h x (List.mem_of_mem_erase hx)
      have h3 : x ≠ (n : Int) := ((List.Nodup.mem_erase_iff hn).mp hx).1
      omega
    have h4 := List.length_erase (a := (n : Int)) (l := l)
    split at h4 <;> omega
theorem Inv.room {rows : List Row} {known pend : Kn} {bad : Bool} (h : Inv rows known pend bad) (hd : due rows = []) : known.length ≤ rows.length := by
  have := nodup_le rows.length (known.map (·.1)) h.nodup fun x hx => by
    obtain ⟨q, hq, rfl⟩ := List.mem_map.mp hx
    exact (h.kn q hq).within hd
  simpa using this
end
open PySem PySem.W PySem.Calls PyProof.Rows
set_option Elab.async false
set_option maxRecDepth 100000
set_option maxHeartbeats 1000000
section
/-- the walk halts here -/
def Halt (P : Prop) : Prop := P
theorem halt {P : Prop} (h : Halt P) : P := h

section
variable {prog : Program} {w : World} {A : Around} {E : Value → Shared → Prop} {s : Shared} {h₀ : Heap} {env : Env} {m : Str → Option Value} {news : List (Addr × Obj)}
/-- the end of a while's turn -/
def WhEnd (h₀ : Heap) (L : Addr) (J : Nat → (Str → Option Value) → List (Addr × Obj) → Prop) (n : Nat) (s : Shared) (Q : Flow → Shared → Prop) : Flow → Shared → Prop
  | .next, s₂ | .cont, s₂ => ∃ h' tk m' nx k, s₂ = { s with heap := h', toks := tk } ∧ Fr h₀ L h' m' ∧ News h₀ L h' nx ∧ k < n ∧ J k m' nx
  | .brk, _ => False
  | .ret v, s₂ => Q (.ret v) s₂
theorem WhEnd.next {L : Addr} {J : Nat → (Str → Option Value) → List (Addr × Obj) → Prop} {n k : Nat} {Q : Flow → Shared → Prop} {h' : Heap} {m' : Str → Option Value} {tk : Nat} (nx : List (Addr × Obj)) (F : Fr h₀ L h' m') (N : News h₀ L h' nx) (hk : k < n) (hJ : J k m' nx) :
    WhEnd h₀ L J n s Q .next { s with heap := h', toks := tk } := ⟨h', tk, m', nx, k, rfl, F, N, hk, hJ⟩
theorem WhEnd.cont {L : Addr} {J : Nat → (Str → Option Value) → List (Addr × Obj) → Prop} {n k : Nat} {Q : Flow → Shared → Prop} {h' : Heap} {m' : Str → Option Value} {tk : Nat} (nx : List (Addr × Obj)) (F : Fr h₀ L h' m') (N : News h₀ L h' nx) (hk : k < n) (hJ : J k m' nx) :
    WhEnd h₀ L J n s Q .cont { s with heap := h', toks := tk } := ⟨h', tk, m', nx, k, rfl, F, N, hk, hJ⟩
theorem while_inv {Q : Flow → Shared → Prop} {test : Expr} {body : List Stmt} {pos : Pos} {n : Nat}
    (F : Fr h₀ env.locals s.heap m) (N : News h₀ env.locals s.heap news) (J : Nat → (Str → Option Value) → List (Addr × Obj) → Prop) (h0 : J n m news)
    (turn : ∀ n m₁ nx h tk, J n m₁ nx → Fr h₀ env.locals h m₁ → News h₀ env.locals h nx →
      wpAny (model prog w) A (isTrue test env (eval test env)) (fun b s₂ => if b = true then wpAny (model prog w) A (execs body env) (WhEnd h₀ env.locals J n s Q) (fun _ _ => False) s₂ else Q .next s₂) (fun _ _ => False) { s with heap := h, toks := tk }) :
    wpAny (model prog w) A (exec (.While test body [] pos) env) Q E s := by
  refine wpAny_While (codeAny_whileLoop (fun k s' => ∃ h' tk m' nx, s' = { s with heap := h', toks := tk } ∧ Fr h₀ env.locals h' m' ∧ News h₀ env.locals h' nx ∧ J k m' nx) ?_ n ⟨s.heap, s.toks, m, news, rfl, F, N, h0⟩)
  rintro k s' ⟨h', tk, m', nx, rfl, F', N', hJ⟩
  refine wpAny_mono (turn k m' nx h' tk hJ F' N') (fun b s₂ hb => ?_) fun _ _ x => x.elim
  cases b with
  | true =>
    simp only [if_true] at hb ⊢
    refine wpAny_mono hb (fun f s₃ hf => ?_) fun _ _ x => x.elim
    cases f with
    | next => obtain ⟨h₃, tk₃, m₃, nx₃, k₃, rfl, F₃, N₃, hk, hJ₃⟩ := hf; exact ⟨k₃, hk, h₃, tk₃, m₃, nx₃, rfl, F₃, N₃, hJ₃⟩
    | cont => obtain ⟨h₃, tk₃, m₃, nx₃, k₃, rfl, F₃, N₃, hk, hJ₃⟩ := hf; exact ⟨k₃, hk, h₃, tk₃, m₃, nx₃, rfl, F₃, N₃, hJ₃⟩
    | brk => exact hf.elim
    | ret v => exact hf
  | false =>
    simp only [Bool.false_eq_true, if_false] at hb ⊢
    exact wpAny_execs_nil hb

theorem pop_last {L D : Addr} {news news' : List (Addr × Obj)} {p : List Value} {y : Value} {n : Nat} {Q : Value → Shared → Prop} (F : Fr h₀ L s.heap m) (N : News h₀ L s.heap news) (U : Upd D (listOf (List.toArray (p ++ [y])) n) (listOf (List.toArray p) (n + 1)) news news')
    (hz : p.length ≤ 100000) (h : ∀ h', Fr h₀ L h' m → News h₀ L h' news' → Q y { s with heap := h' }) : wpAny (model prog w) A (call (.builtin "list.pop") [.ref D]) Q E s :=
  kl_pop F N (kpa_last y p) U (by rw [sizeLine_eq]; simp; omega) h
theorem item_first {value slice : Expr} {t : Addr} {xs : List Value} {x : Value} {u : Tok} {Q : Value → Shared → Prop} (ht : IsTup s.heap t (x :: xs).toArray) (h : Q x s)
    (hs : subscripted slice false (.ref t) (.int 0 u) = operate [.ref t, .int 0 u] (getItem (.ref t) (.int 0 u))) (hg : ∀ r, letTemporaryGo value (.ref t) r = pure ()) :
    wpAny (model prog w) A (subscriptTail value slice (.ref t) (.int 0 u)) Q E s := by
  refine item_tupleL (j := 0) (x := x) ht (by omega) (by omega) ?_ (by simp) h hs hg
  unfold seqIndex?
  rw [List.length_cons]
  simp
theorem ne_tups {a b : Addr} {xs ys : List Value} {ns ms : List Int} {Q : Value → Shared → Prop} (ha : IsTup s.heap a xs.toArray) (hb : IsTup s.heap b ys.toArray) (hi : IntsAre xs ns) (hj : IntsAre ys ms) (hu : A.units + 64 < cLine) (h : Q (.bool (!decide (ns = ms))) s) :
    wpAny (model prog w) A (compareOp .NotEq (.ref a) (.ref b)) Q E s := by
  have sh : ∀ ns : List Int, SeqAt.shaped (.tuple (ns.map PyData.int)) = true := fun ns => by
    simp [SeqAt.shaped, PyData.canLay0, PyData.depth, ke_canLayAll0, ke_depthAll]
  refine ne_dataH_same (reads_newDataT ha (ke_carried hi)) (reads_newDataT hb (ke_carried hj)) (sh _) (sh _) hu (SeqAt.noMix_of_shape (.tuples .int) rfl _ _ (tuples_map_has fun _ => rfl) (tuples_map_has fun _ => rfl)) ?_
  have e : PySem.Spec.same (.tuple (ns.map PyData.int)) (.tuple (ms.map PyData.int)) = decide (ns = ms) := by
    simp only [PySem.Spec.same]; exact ke_sameAll ns ms
  rw [e]
  exact h
end

/-- the tuple of the open scopes -/
def ScAt (S : Addr → Obj → Prop) (v : Value) (sc : List Int) : Prop := ∃ a us, v = .ref a ∧ S a (tupOf us) ∧ IntsAre us sc
theorem ScAt.mono {S S' : Addr → Obj → Prop} {v : Value} {sc : List Int} (h : ScAt S v sc) (k : ∀ a o, S a o → S' a o) : ScAt S' v sc := let ⟨a, us, e, x, y⟩ := h; ⟨a, us, e, k _ _ x, y⟩
inductive KnAre (T : Value → List Int → Prop) : List (Int × Value) → Kn → Prop
  | nil : KnAre T [] []
  | cons {a v sc kvs kn} : T v sc → KnAre T kvs kn → KnAre T ((a, v) :: kvs) ((a, sc) :: kn)
theorem KnAre.mono {T T' : Value → List Int → Prop} {kvs : List (Int × Value)} {kn : Kn} (h : KnAre T kvs kn) (k : ∀ v sc, T v sc → T' v sc) : KnAre T' kvs kn := by
  induction h with
  | nil => exact .nil
  | cons e _ ih => exact .cons (k _ _ e) ih
theorem KnAre.append {T : Value → List Int → Prop} {kvs kvs' : List (Int × Value)} {kn kn' : Kn} (h : KnAre T kvs kn) (h' : KnAre T kvs' kn') : KnAre T (kvs ++ kvs') (kn ++ kn') := by
  induction h with
  | nil => exact h'
  | cons e _ ih => exact .cons e ih
theorem KnAre.length {T : Value → List Int → Prop} {kvs : List (Int × Value)} {kn : Kn} (h : KnAre T kvs kn) : kvs.length = kn.length := by
  induction h with
  | nil => rfl
  | cons _ _ ih => simp [ih]
theorem KnAre.look {T : Value → List Int → Prop} {kvs : List (Int × Value)} {kn : Kn} (h : KnAre T kvs kn) (a : Int) : (valueAt kvs a = none ∧ ∀ q ∈ kn, q.1 ≠ a) ∨ ∃ v sc, valueAt kvs a = some v ∧ (a, sc) ∈ kn ∧ T v sc := by
  induction h with
  | nil => exact .inl ⟨rfl, fun _ h => nomatch h⟩
  | @cons b v sc kvs kn e _ ih =>
    by_cases hb : b = a
    · subst hb
      exact .inr ⟨v, sc, by simp [valueAt], .head _, e⟩
    · have e1 : valueAt ((b, v) :: kvs) a = valueAt kvs a := by simp [valueAt, hb]
      rw [e1]
      rcases ih with ⟨h1, h2⟩ | ⟨v', sc', h1, h2, h3⟩
      · refine .inl ⟨h1, fun q hq => ?_⟩
        rcases List.mem_cons.mp hq with rfl | hq
        · exact hb
        · exact h2 q hq
      · exact .inr ⟨v', sc', h1, .tail _ h2, h3⟩
/-- the pairs (address, scopes) that are still to do -/
inductive PeAre (S : Addr → Obj → Prop) (T : Value → List Int → Prop) : List Value → Kn → Prop
  | nil : PeAre S T [] []
  | cons {p a t v sc vs pe} : S p (tupOf [.int a t, v]) → T v sc → PeAre S T vs pe → PeAre S T (.ref p :: vs) ((a, sc) :: pe)
theorem PeAre.mono {S S' : Addr → Obj → Prop} {T T' : Value → List Int → Prop} {vs : List Value} {pe : Kn} (h : PeAre S T vs pe) (k : ∀ a o, S a o → S' a o) (k' : ∀ v sc, T v sc → T' v sc) : PeAre S' T' vs pe := by
  induction h with
  | nil => exact .nil
  | cons e f _ ih => exact .cons (k _ _ e) (k' _ _ f) ih
theorem PeAre.append {S : Addr → Obj → Prop} {T : Value → List Int → Prop} {vs vs' : List Value} {pe pe' : Kn} (h : PeAre S T vs pe) (h' : PeAre S T vs' pe') : PeAre S T (vs ++ vs') (pe ++ pe') := by
  induction h with
  | nil => exact h'
  | cons e f _ ih => exact .cons e f ih
theorem PeAre.length {S : Addr → Obj → Prop} {T : Value → List Int → Prop} {vs : List Value} {pe : Kn} (h : PeAre S T vs pe) : vs.length = pe.length := by
  induction h with
  | nil => rfl
  | cons _ _ _ ih => simp [ih]
theorem PeAre.split {S : Addr → Obj → Prop} {T : Value → List Int → Prop} {vs : List Value} : ∀ {pe pe' : Kn}, PeAre S T vs (pe ++ pe') → ∃ us us', vs = us ++ us' ∧ PeAre S T us pe ∧ PeAre S T us' pe'
  | [], _, h => ⟨[], vs, rfl, .nil, h⟩
  | _ :: pe, pe', h => by
    cases h with
    | cons e f r =>
      obtain ⟨us, us', rfl, h1, h2⟩ := PeAre.split r
      exact ⟨_ :: us, us', rfl, .cons e f h1, h2⟩

section
variable {w : World} {A : Around} {E : Value → Shared → Prop} {s : Shared}
theorem behind_use {mean : ExcName → Option Value} {mg mb : Str → Option Value} {h₀ : Heap} {L : Addr} {m : Str → Option Value} {news rest : List (Addr × Obj)} {g : List (Addr × Obj) → List (Addr × Obj)} {xs : List Addr} {v : Value} {row : Row} {o : Addr} {us : List Value} {sc : List Int} {Q : Value → Shared → Prop}
    (hh : A.handled = none) (hdp : A.depth + 5 < recursionLimit) (F : Fr h₀ L s.heap m) (X₀ : (hd.heap_39 w.params).In h₀) (T₀ : Top hd.view_39 (looseW hd.view_39 []) mean mg mb h₀) (N : News h₀ L s.heap news)
    (hT : TailAt rest news g) (hoff : Off xs rest) (hxs : ∀ x ∈ xs, ∃ o, (x, o) ∈ news)
    (hr : RowAt (At h₀) v row) (ho : (o, tupOf us) ∈ rest) (hsc : IntsAre us sc) (hln : us.length ≤ 1000)
    (h : ∀ r h' tk₁ rest', Fr h₀ L h' m → News h₀ L h' (g rest') → Off xs rest' → Sub rest rest' → (match behind row sc with | none => r = .none | some sc' => ScAt (InL rest') r sc') → Q r { s with heap := h', toks := tk₁ }) :
    wpAny (model PySem.Challenge.rw_nn0292_01.row.prog w) A (call (.ref 35) [v, .ref o]) Q E s := by
  obtain ⟨hd, d, fr, gd, un⟩ := A
  obtain rfl : hd = none := hh
  have hos := (N _ (hT.tail _ ho)).1
  refine wpAny_mono (behind_core hdp F.keep X₀ T₀ (hr.mono fun a o _ e => F.keep a o e) hos hsc hln fun r h' tk₁ R hb => ?_) (fun _ _ x => x) fun _ _ x => x.elim
  have F' := R.fr F fun _ q => nomatch q
  have N' := R.news N fun _ _ q => nomatch q
  have base : News h₀ L h' (g rest) := fun p hp => (hT.mem _ _ hp).elim (fun hp => N' p (hT.tail _ hp)) (N' p)
  cases hbe : behind row sc with
  | none =>
    rw [hbe] at hb h
    exact h r h' tk₁ rest F' base hoff (fun p hp => hp) hb
  | some sc' =>
    rw [hbe] at hb h
    obtain ⟨a, us', rfl, hg, hi, hn⟩ := hb
    rcases hn with hn | ⟨rfl, rfl⟩
    · refine h _ h' tk₁ ((a, tupOf us') :: rest) F' (fun p hp => ?_) (hoff.cons fun q => ?_) (fun p hp => .tail _ hp) ⟨a, us', rfl, .head _, hi⟩
      · rcases hT.mem _ _ hp with hp | hp
        · rcases List.mem_cons.mp hp with rfl | hp
          · refine ⟨hg, fun e => ?_, ?_⟩
            · obtain ⟨oL, _, _, hL, _⟩ := F.ns
              have e' : a = L := e
              rw [e', hL] at hn
              cases hn
            · cases q : h₀.get? a with
              | none => rfl
              | some o => rw [F.keep _ _ q] at hn; cases hn
          · exact N' p (hT.tail _ hp)
        · exact N' p hp
      · obtain ⟨o, ho⟩ := hxs _ q
        have := (N _ ho).1
        rw [hn] at this
        cases this
    · exact h _ h' tk₁ rest F' base hoff (fun p hp => hp) ⟨a, us', rfl, ho, hi⟩
end
section
variable {w : World} {A : Around} {E : Value → Shared → Prop} {s : Shared}
theorem behind_no {mean : ExcName → Option Value} {mg mb : Str → Option Value} {h₀ : Heap} {L : Addr} {m : Str → Option Value} {news rest : List (Addr × Obj)} {g : List (Addr × Obj) → List (Addr × Obj)} {xs : List Addr} {v : Value} {row : Row} {o : Addr} {us : List Value} {sc : List Int} {Q : Value → Shared → Prop}
    (hh : A.handled = none) (hdp : A.depth + 5 < recursionLimit) (F : Fr h₀ L s.heap m) (X₀ : (hd.heap_39 w.params).In h₀) (T₀ : Top hd.view_39 (looseW hd.view_39 []) mean mg mb h₀) (N : News h₀ L s.heap news)
    (hT : TailAt rest news g) (hoff : Off xs rest) (hxs : ∀ x ∈ xs, ∃ o, (x, o) ∈ news)
    (hr : RowAt (At h₀) v row) (ho : (o, tupOf us) ∈ rest) (hsc : IntsAre us sc) (hln : us.length ≤ 1000) (hb : behind row sc = none)
    (h : ∀ h' tk₁ rest', Fr h₀ L h' m → News h₀ L h' (g rest') → Off xs rest' → Sub rest rest' → Q .none { s with heap := h', toks := tk₁ }) :
    wpAny (model PySem.Challenge.rw_nn0292_01.row.prog w) A (call (.ref 35) [v, .ref o]) Q E s :=
  behind_use hh hdp F X₀ T₀ N hT hoff hxs hr ho hsc hln fun r h' tk₁ rest' F' N' o' sb e => by
    rw [hb] at e
    have e' : r = .none := e
    subst e'
    exact h h' tk₁ rest' F' N' o' sb
theorem behind_ok {mean : ExcName → Option Value} {mg mb : Str → Option Value} {h₀ : Heap} {L : Addr} {m : Str → Option Value} {news rest : List (Addr × Obj)} {g : List (Addr × Obj) → List (Addr × Obj)} {xs : List Addr} {v : Value} {row : Row} {o : Addr} {us : List Value} {sc sc' : List Int} {Q : Value → Shared → Prop}
    (hh : A.handled = none) (hdp : A.depth + 5 < recursionLimit) (F : Fr h₀ L s.heap m) (X₀ : (hd.heap_39 w.params).In h₀) (T₀ : Top hd.view_39 (looseW hd.view_39 []) mean mg mb h₀) (N : News h₀ L s.heap news)
    (hT : TailAt rest news g) (hoff : Off xs rest) (hxs : ∀ x ∈ xs, ∃ o, (x, o) ∈ news)
    (hr : RowAt (At h₀) v row) (ho : (o, tupOf us) ∈ rest) (hsc : IntsAre us sc) (hln : us.length ≤ 1000) (hb : behind row sc = some sc')
    (h : ∀ b us' h' tk₁ rest', Fr h₀ L h' m → News h₀ L h' (g rest') → Off xs rest' → Sub rest rest' → (b, tupOf us') ∈ rest' → IntsAre us' sc' → Q (.ref b) { s with heap := h', toks := tk₁ }) :
    wpAny (model PySem.Challenge.rw_nn0292_01.row.prog w) A (call (.ref 35) [v, .ref o]) Q E s :=
  behind_use hh hdp F X₀ T₀ N hT hoff hxs hr ho hsc hln fun r h' tk₁ rest' F' N' o' sb e => by
    rw [hb] at e
    obtain ⟨b, us', e', hm, hi⟩ := e
    subst e'
    exact h b us' h' tk₁ rest' F' N' o' sb hm hi
end
theorem RowAt.named {S : Addr → Obj → Prop} {v : Value} {row : Row} (h : RowAt S v row) : ∃ a t xs, v = .ref a ∧ S a (tupOf (.str row.name t :: xs)) := by
  cases h with
  | fork e _ _ _ => exact ⟨_, _, _, rfl, e⟩
  | _ e => exact ⟨_, _, _, rfl, e⟩
def Stays (x : Str) (m₀ m : Str → Option Value) : Prop := ∃ o, m = fun y => if y = x then o else m₀ y
theorem Stays.start (x : Str) (m₀ : Str → Option Value) : Stays x m₀ m₀ := ⟨m₀ x, by funext y; split <;> simp_all⟩
theorem Stays.turn {x : Str} {m₀ : Str → Option Value} {o v : Option Value} : Stays x m₀ (fun y => if y = x then v else (fun y => if y = x then o else m₀ y) y) := ⟨v, by funext y; dsimp only; split <;> rfl⟩
end
open PySem PySem.W PySem.Calls PyProof.Rows
set_option Elab.async false
set_option maxRecDepth 100000
set_option maxHeartbeats 1000000
section
theorem behind_none_targets {row : Row} {sc : List Int} (h : behind row sc = none) : row.targets = [] := by
  cases row <;> simp [behind] at h ⊢ <;> rfl
theorem ends_of {row : Row} (h1 : row.falls = false) (h2 : row.name ≠ Str.ofString "jump") : row.ends = true := by
  cases row <;> first | rfl | (exfalso; exact h2 rfl) | (exfalso; simp [Row.falls] at h1)
theorem ends_falls {row : Row} (h1 : row.falls = true) : row.ends = false := by
  cases row <;> first | rfl | (exfalso; simp [Row.falls] at h1)
theorem ends_jump {row : Row} (h1 : row.name = Str.ofString "jump") : row.ends = false := by
  cases row <;> first | rfl | (exfalso; revert h1; simp only [Row.name]; decide)
theorem ends_jumpB {row : Row} (h1 : (row.name != Str.ofString "jump") = false) : row.ends = false := ends_jump (by simpa using h1)
theorem fork_name {row : Row} : row.name = Str.ofString "fork" ↔ row.isFork = true := by
  cases row <;> simp only [Row.name, Row.isFork] <;> decide

theorem nextSc_fork {row : Row} {sc : List Int} (h : (row.name == Str.ofString "fork") = true) : nextSc row sc = [] := by
  unfold nextSc; rw [if_pos (fork_name.mp (by simpa using h))]
theorem nextSc_no {row : Row} {sc : List Int} (h : (row.name == Str.ofString "fork") = false) : nextSc row sc = sc := by
  unfold nextSc; rw [if_neg fun e => by rw [fork_name.mpr e] at h; simp at h]
theorem falls_both {b : Bool} {P : Prop} (h1 : b = true) (h2 : b = false) : P := by rw [h1] at h2; cases h2
theorem Inv.room1 {rows : List Row} {known pend : Kn} {bad : Bool} {a : Int} {sc : List Int} (h : Inv rows known pend bad) (hd : due rows = []) (hno : ∀ q ∈ known, q.1 ≠ a) (hr : Reach rows a sc) : known.length + 1 ≤ rows.length := by
  have := nodup_le rows.length (a :: known.map (·.1)) (List.nodup_cons.mpr ⟨fun hm => by obtain ⟨q, hq, e⟩ := List.mem_map.mp hm; exact hno q hq e, h.nodup⟩) fun x hx => by
    rcases List.mem_cons.mp hx with rfl | hx
    · exact hr.within hd
    · obtain ⟨q, hq, rfl⟩ := List.mem_map.mp hx
      exact (h.kn q hq).within hd
  simpa using this
/-- the pairs that a row hands on -/
def handed (row : Row) (sc : List Int) (ts : List Int) : Kn := ts.map fun t => (t, nextSc row sc)
theorem handed_take {row : Row} {sc ts : List Int} {k : Nat} {t : Int} (h : ts[k]? = some t) : handed row sc (ts.take (k + 1)) = handed row sc (ts.take k) ++ [(t, nextSc row sc)] := by
  unfold handed
  rw [List.take_add_one, h, List.map_append]
  simp

theorem notEmpty_snoc {α : Type} (l : List α) (x : α) : (!(l ++ [x]).isEmpty) = true := by simp

structure SfJ (prog : Program) (w : World) (c aF aK aP : Addr) (rows : List Row) (fs : List Value) (n1 : Nat) (oK : Obj) (kvs : List (Int × Value)) (known : Kn) (ps : List Value) (n2 : Nat) (pe : Kn) (rest : List (Addr × Obj)) (fl : List (Int × Str))
    (n : Nat) (m : Str → Option Value) (nx : List (Addr × Obj)) : Prop where
  eq : nx = (aF, listOf (List.toArray fs) n1) :: (aK, oK) :: (aP, listOf (List.toArray ps) n2) :: rest
  off : Off [aF, aK, aP] rest
  fa : FaultsAre (InL rest) fs fl
  di : oK.IsDictOf (intKind prog w) kvs
  ka : KnAre (ScAt (InL rest)) kvs known
  pa : PeAre (InL rest) (ScAt (InL rest)) ps pe
  inv : Inv rows known pe (!fs.isEmpty)
  meas : n = 4 * (rows.length - known.length) + pe.length
  room : fs.length + n ≤ 4 * rows.length + 1
  m1 : m (Str.ofString "code") = some (.ref c)
  m2 : m (Str.ofString "faults") = some (.ref aF)
  m3 : m (Str.ofString "known") = some (.ref aK)
  m4 : m (Str.ofString "pending") = some (.ref aP)
def SfI (prog : Program) (w : World) (c aF aK aP : Addr) (rows : List Row) (n : Nat) (m : Str → Option Value) (nx : List (Addr × Obj)) : Prop :=
  ∃ fs n1 oK kvs known ps n2 pe rest fl, SfJ prog w c aF aK aP rows fs n1 oK kvs known ps n2 pe rest fl n m nx
theorem sf_start {prog : Program} {w : World} {h₀ h : Heap} {L c aF aK aP p0 t0 : Addr} {m : Str → Option Value} {oK : Obj} {t : Tok} {rows : List Row} (_F : Fr h₀ L h m)
    (N : News h₀ L h [(aP, listOf #[.ref p0] 0), (p0, tupOf [.int 0 t, .ref t0]), (t0, tupOf []), (aK, oK), (aF, listOf #[] 0)]) (di : oK.IsDictOf (intKind prog w) []) (l1 : @LT.lt Nat _ aF aK) (l2 : @LT.lt Nat _ aK t0) (l3 : @LT.lt Nat _ t0 p0) (l4 : @LT.lt Nat _ p0 aP)
    (m1 : m (Str.ofString "code") = some (.ref c)) (m2 : m (Str.ofString "faults") = some (.ref aF)) (m3 : m (Str.ofString "known") = some (.ref aK)) (m4 : m (Str.ofString "pending") = some (.ref aP)) :
    ∃ nx, News h₀ L h nx ∧ SfI prog w c aF aK aP rows (4 * rows.length + 1) m nx := by
  refine ⟨(aF, listOf (List.toArray []) 0) :: (aK, oK) :: (aP, listOf (List.toArray [.ref p0]) 0) :: [(p0, tupOf [.int 0 t, .ref t0]), (t0, tupOf [])], fun p hp => N p ?_, ?_⟩
  · simp only [List.mem_cons] at hp ⊢
    rcases hp with h | h | h | h | h | h <;> first | exact absurd h List.not_mem_nil | simp [h]
  · refine ⟨[], 0, oK, [], [], [.ref p0], 0, [(0, [])], _, [], rfl, ?_, .nil, di, .nil, .cons (.head _) ⟨t0, [], rfl, .tail _ (.head _), .nil⟩ .nil, .start rows, by simp, by simp, m1, m2, m3, m4⟩
    intro p hp q
    simp only [List.mem_cons, List.not_mem_nil, or_false] at hp q
    rcases hp with rfl | rfl <;> rcases q with q | q | q <;> (have q' : @Eq Nat _ _ := q; dsimp only at q'; omega)

section
variable {prog : Program} {w : World} {c aF aK aP : Addr} {rows : List Row} {fs : List Value} {n1 n1' n2' : Nat} {oK oK' : Obj} {kvs : List (Int × Value)} {known : Kn} {qs : List Value} {pe' : Kn} {rest rest' : List (Addr × Obj)} {fl : List (Int × Str)} {n : Nat} {m : Str → Option Value} {ad : Int} {sc sc0 : List Int}
  {D o : Addr} {us : List Value} {t u : Tok} {x : Str} {row : Row}
theorem lt3 {D a b d : Nat} (h1 : a < D) (h2 : b < D) (h3 : d < D) : ∀ x ∈ [a, b, d], @LT.lt Nat _ x D := fun x hx => by
  simp only [List.mem_cons, List.not_mem_nil, or_false] at hx
  rcases hx with rfl | rfl | rfl <;> assumption
/-- seen, with other scopes -/
theorem sf_differ (off : Off [aF, aK, aP] rest) (fa : FaultsAre (InL rest) fs fl) (di : oK.IsDictOf (intKind prog w) kvs) (ka : KnAre (ScAt (InL rest)) kvs known) (pa : PeAre (InL rest) (ScAt (InL rest)) qs pe') (inv : Inv rows known (pe' ++ [(ad, sc)]) (!fs.isEmpty))
    (meas : n = 4 * (rows.length - known.length) + (pe'.length + 1)) (room : fs.length + n ≤ 4 * rows.length + 1) (hm : (ad, sc0) ∈ known) (hne : ¬ sc0 = sc) (l1 : @LT.lt Nat _ aF D) (l2 : @LT.lt Nat _ aK D) (l3 : @LT.lt Nat _ aP D)
    (m1 : m (Str.ofString "code") = some (.ref c)) (m2 : m (Str.ofString "faults") = some (.ref aF)) (m3 : m (Str.ofString "known") = some (.ref aK)) (m4 : m (Str.ofString "pending") = some (.ref aP)) :
    n - 1 < n ∧ SfI prog w c aF aK aP rows (n - 1) m ((aF, listOf (List.toArray (fs ++ [.ref D])) n1') :: (aK, oK) :: (aP, listOf (List.toArray qs) n2') :: (D, tupOf [.int ad t, .str x u]) :: rest) := by
  refine ⟨by omega, _, _, _, _, _, _, _, _, _, _, ⟨rfl, off.new (lt3 l1 l2 l3), (fa.mono fun _ _ _ h => .tail _ h).snoc (.head _), di, ka.mono fun _ _ h => h.mono fun _ _ h => .tail _ h, pa.mono (fun _ _ h => .tail _ h) fun _ _ h => h.mono fun _ _ h => .tail _ h, ?_, by omega, by simp; omega, m1, m2, m3, m4⟩⟩
  rw [notEmpty_snoc]
  exact (inv.differ (fun x => by simp [or_comm]) hm hne).2
/-- seen, with the same scopes -/
theorem sf_same (off : Off [aF, aK, aP] rest) (fa : FaultsAre (InL rest) fs fl) (di : oK.IsDictOf (intKind prog w) kvs) (ka : KnAre (ScAt (InL rest)) kvs known) (pa : PeAre (InL rest) (ScAt (InL rest)) qs pe') (inv : Inv rows known (pe' ++ [(ad, sc)]) (!fs.isEmpty))
    (meas : n = 4 * (rows.length - known.length) + (pe'.length + 1)) (room : fs.length + n ≤ 4 * rows.length + 1) (hm : (ad, sc0) ∈ known) (he : sc0 = sc)
    (m1 : m (Str.ofString "code") = some (.ref c)) (m2 : m (Str.ofString "faults") = some (.ref aF)) (m3 : m (Str.ofString "known") = some (.ref aK)) (m4 : m (Str.ofString "pending") = some (.ref aP)) :
    n - 1 < n ∧ SfI prog w c aF aK aP rows (n - 1) m ((aF, listOf (List.toArray fs) n1') :: (aK, oK) :: (aP, listOf (List.toArray qs) n2') :: rest) := by
  subst he
  exact ⟨by omega, _, _, _, _, _, _, _, _, _, _, ⟨rfl, off, fa, di, ka, pa, inv.same (fun x => by simp [or_comm]) hm, by omega, by omega, m1, m2, m3, m4⟩⟩
/-- a new one -/
theorem sf_turn {fs' ps : List Value} {fl' : List (Int × Str)} {pend' : Kn} (off : Off [aF, aK, aP] rest') (sub : Sub rest rest') (fa : FaultsAre (InL rest') fs' fl') (hfs : fs'.length ≤ fs.length + 1) (di : oK'.IsDictOf (intKind prog w) (stored kvs ad (.ref o))) (hvn : valueAt kvs ad = none)
    (ka : KnAre (ScAt (InL rest)) kvs known) (ho : (o, tupOf us) ∈ rest) (hsc : IntsAre us sc) (pa : PeAre (InL rest') (ScAt (InL rest')) ps pend') (inv : Inv rows known (pe' ++ [(ad, sc)]) (!fs.isEmpty)) (hno : ∀ q ∈ known, q.1 ≠ ad) (hg : rows[ad.toNat]? = some row)
    (hkr : known.length + 1 ≤ rows.length) (hp' : pend' = pe' ++ handed row sc row.targets ++ (if row.falls = true then (behind row sc).toList.map (fun s => (ad + 1, s)) else []))
    (htw : row.targets.length ≤ 2)
    (hb : fs' = [] → fs = [] ∧ okRow row sc) (hb' : fs' ≠ [] → fs ≠ [] ∨ ¬ okRow row sc)
    (meas : n = 4 * (rows.length - known.length) + (pe'.length + 1)) (room : fs.length + n ≤ 4 * rows.length + 1)
    (m1 : m (Str.ofString "code") = some (.ref c)) (m2 : m (Str.ofString "faults") = some (.ref aF)) (m3 : m (Str.ofString "known") = some (.ref aK)) (m4 : m (Str.ofString "pending") = some (.ref aP)) :
    ∃ k, k < n ∧ SfI prog w c aF aK aP rows k m ((aF, listOf (List.toArray fs') n1') :: (aK, oK') :: (aP, listOf (List.toArray ps) n2') :: rest') := by
  have hin : Inv rows (known ++ [(ad, sc)]) pend' (!fs'.isEmpty) := by
    refine inv.turn (p := pe') (fun x => by simp [or_comm]) hno hg (fun x => ?_) (fun e => ?_) fun e => ?_
    · rw [hp']
      simp only [List.mem_append, handed, List.mem_map, or_assoc]
      refine or_congr Iff.rfl (or_congr ⟨fun ⟨t, ht, e⟩ => ⟨t, ht, e.symm⟩, fun ⟨t, ht, e⟩ => ⟨t, ht, e.symm⟩⟩ ?_)
      by_cases hf : row.falls = true
      · rw [if_pos hf]
        simp [hf, eq_comm]
      · rw [if_neg hf]
        simp [hf]
    · have := hb (by simpa using e)
      simpa using this
    · have := hb' (by simpa using e)
      simpa using this
  have hlen : pend'.length ≤ pe'.length + 3 := by
    rw [hp', List.length_append, List.length_append]
    have h1 : (handed row sc row.targets).length ≤ 2 := by simpa [handed] using htw
    have h2 : (if row.falls = true then (behind row sc).toList.map (fun s => (ad + 1, s)) else []).length ≤ 1 := by
      split
      · cases behind row sc <;> simp
      · simp
    omega
  have hkl : (known ++ [(ad, sc)]).length = known.length + 1 := by simp
  refine ⟨4 * (rows.length - (known ++ [(ad, sc)]).length) + pend'.length, by rw [hkl]; omega, fs', n1', oK', kvs ++ [(ad, .ref o)], known ++ [(ad, sc)], ps, n2', pend', rest', fl', ⟨rfl, off, fa, ?_, ?_, pa, hin, rfl, by rw [hkl]; omega, m1, m2, m3, m4⟩⟩
  · rw [← stored_absent hvn]; exact di
  · exact (ka.mono fun _ _ h => h.mono fun _ _ h => sub _ h).append (.cons ⟨o, us, rfl, sub _ ho, hsc⟩ .nil)

theorem noScopes {us : List Value} {sc : List Int} (hl : ¬ 0 < (us.length : Int)) (hu : us.length = sc.length) : sc = [] := List.eq_nil_of_length_eq_zero (by omega)
/-- the targets gone through -/
def SfL (aF aK aP : Addr) (fs' : List Value) (n1' : Nat) (oK' : Obj) (r : Addr) (its : List Value) (h₀ : Heap) (rest3 : List (Addr × Obj)) (pe' : Kn) (row : Row) (sc : List Int) (m₀ : Str → Option Value) (k : Nat) (m : Str → Option Value) (nx : List (Addr × Obj)) : Prop :=
  ∃ ps n2 rest4, nx = (aF, listOf (List.toArray fs') n1') :: (aK, oK') :: (aP, listOf (List.toArray ps) n2) :: rest4 ∧ Off [aF, aK, aP] rest4 ∧ Sub rest3 rest4 ∧ SrcTup h₀ r its rest4 ∧
    PeAre (InL rest4) (ScAt (InL rest4)) ps (pe' ++ handed row sc (row.targets.take k)) ∧ Stays (Str.ofString "target") m₀ m
theorem sfl_start {h₀ : Heap} {r : Addr} {its : List Value} {rest3 : List (Addr × Obj)} (off : Off [aF, aK, aP] rest3) (src : SrcTup h₀ r its rest3) (sub : Sub rest rest3) (pa : PeAre (InL rest) (ScAt (InL rest)) qs pe') :
    SfL aF aK aP fs n1' oK' r its h₀ rest3 pe' row sc m 0 m ((aF, listOf (List.toArray fs) n1') :: (aK, oK') :: (aP, listOf (List.toArray qs) n2') :: rest3) :=
  ⟨qs, n2', rest3, rfl, off, .refl _, src, by simpa [handed] using pa.mono (fun _ _ h => sub _ h) fun _ _ h => h.mono fun _ _ h => sub _ h, .start _ _⟩
theorem sfl_src {h₀ : Heap} {r : Addr} {its : List Value} {rest3 : List (Addr × Obj)} {m₀ : Str → Option Value} (k : Nat) (m : Str → Option Value) (nx : List (Addr × Obj)) (h : SfL aF aK aP fs n1' oK' r its h₀ rest3 pe' row sc m₀ k m nx) : SrcTup h₀ r its nx := by
  obtain ⟨ps, n2, rest4, rfl, _, _, hs, _⟩ := h
  exact hs.imp id fun x => .tail _ (.tail _ (.tail _ x))
theorem sfl_next {h₀ : Heap} {r : Addr} {its : List Value} {rest3 rest4 : List (Addr × Obj)} {m₀ : Str → Option Value} {o' v : Option Value} {ps : List Value} {k : Nat} {tv : Int} {o2 : Addr} {us2 : List Value} (ex : List (Addr × Obj)) (off : Off [aF, aK, aP] rest4) (hex : Off [aF, aK, aP] ex) (sub : Sub rest3 rest4) (src : SrcTup h₀ r its rest4)
    (pa : PeAre (InL rest4) (ScAt (InL rest4)) ps (pe' ++ handed row sc (row.targets.take k))) (hv : row.targets[k]? = some tv) (hD : (D, tupOf [.int tv t, .ref o2]) ∈ ex) (ho : (o2, tupOf us2) ∈ ex ++ rest4) (hsc : IntsAre us2 (nextSc row sc)) :
    SfL aF aK aP fs n1' oK' r its h₀ rest3 pe' row sc m₀ (k + 1) (fun y => if y = Str.ofString "target" then v else (fun y => if y = Str.ofString "target" then o' else m₀ y) y) ((aF, listOf (List.toArray fs) n1') :: (aK, oK') :: (aP, listOf (List.toArray (ps ++ [.ref D])) n2') :: (ex ++ rest4)) := by
  refine ⟨_, _, ex ++ rest4, rfl, fun p hp => (List.mem_append.mp hp).elim (hex p) (off p), fun p hp => List.mem_append_right _ (sub p hp), src.imp id fun h => List.mem_append_right _ h, ?_, .turn⟩
  rw [handed_take hv, ← List.append_assoc]
  exact (pa.mono (fun _ _ h => List.mem_append_right _ h) fun _ _ h => h.mono fun _ _ h => List.mem_append_right _ h).append (.cons (List.mem_append_left _ hD) ⟨_, _, rfl, ho, hsc⟩ .nil)
end
theorem newsRot5b {h₀ h : Heap} {L : Addr} {a b c d e f : Addr × Obj} {r : List (Addr × Obj)} (N : News h₀ L h (a :: b :: c :: d :: e :: f :: r)) : News h₀ L h (c :: d :: e :: f :: ([a, b] ++ r)) := fun p hp => N p <| by
  simp only [List.mem_cons, List.cons_append, List.nil_append] at hp ⊢; rcases hp with h | h | h | h | h | h | h <;> simp [h]
theorem newsRot5a {h₀ h : Heap} {L : Addr} {a c d e f : Addr × Obj} {r : List (Addr × Obj)} (N : News h₀ L h (a :: c :: d :: e :: f :: r)) : News h₀ L h (c :: d :: e :: f :: ([a] ++ r)) := fun p hp => N p <| by
  simp only [List.mem_cons, List.cons_append, List.nil_append] at hp ⊢; rcases hp with h | h | h | h | h | h <;> simp [h]
theorem WhEnd.contE {h₀ : Heap} {s : Shared} {L : Addr} {J : Nat → (Str → Option Value) → List (Addr × Obj) → Prop} {n : Nat} {Q : Flow → Shared → Prop} {h' : Heap} {m' : Str → Option Value} {tk : Nat} (nx : List (Addr × Obj)) (F : Fr h₀ L h' m') (N : News h₀ L h' nx) (h : ∃ k, k < n ∧ J k m' nx) :
    WhEnd h₀ L J n s Q .cont { s with heap := h', toks := tk } := let ⟨_, hk, hJ⟩ := h; .cont nx F N hk hJ
theorem WhEnd.nextE {h₀ : Heap} {s : Shared} {L : Addr} {J : Nat → (Str → Option Value) → List (Addr × Obj) → Prop} {n : Nat} {Q : Flow → Shared → Prop} {h' : Heap} {m' : Str → Option Value} {tk : Nat} (nx : List (Addr × Obj)) (F : Fr h₀ L h' m') (N : News h₀ L h' nx) (h : ∃ k, k < n ∧ J k m' nx) :
    WhEnd h₀ L J n s Q .next { s with heap := h', toks := tk } := let ⟨_, hk, hJ⟩ := h; .next nx F N hk hJ
end
open PySem PySem.W PySem.Calls PyProof.Rows
set_option Elab.async false
set_option maxRecDepth 100000
set_option maxHeartbeats 1000000
section
/-- every question of the tree asks two of the first n; every end is so -/
inductive Asks (n : Nat) {α : Type} (R : α → Prop) : KasT α → Prop
  | ret {a} : R a → Asks n R (.ret a)
  | ask {i j k} : i < n → j < n → (∀ b, Asks n R (k b)) → Asks n R (.ask i j k)
theorem Asks.bind {n : Nat} {α β : Type} {R : α → Prop} {R' : β → Prop} {f : α → KasT β} {t : KasT α} (h : Asks n R t) (hf : ∀ a, R a → Asks n R' (f a)) : Asks n R' (t.bind f) := by
  induction h with
  | ret e => exact hf _ e
  | ask hi hj _ ih => exact .ask hi hj ih
theorem Asks.wp {n : Nat} {α : Type} {R : α → Prop} {cmp : Nat → Nat → (Bool → Shared → Prop) → Shared → Prop} {s : Shared} {Q : α → Shared → Prop} (hc : ∀ i j (C : Bool → Shared → Prop), i < n → j < n → (∀ b, C b s) → cmp i j C s) {t : KasT α} (h : Asks n R t) (hq : ∀ a, R a → Q a s) : t.kasWp cmp Q s := by
  induction h with
  | ret e => exact hq _ e
  | ask hi hj _ ih => exact hc _ _ _ hi hj ih
/-- n places, each below n -/
def Pl (n : Nat) (p : Array Nat) : Prop := p.size = n ∧ ∀ x ∈ p.toList, x < n
theorem Pl.perm {n : Nat} {p q : Array Nat} (h : Pl n p) (e : q.Perm p) : Pl n q := ⟨e.size_eq.trans h.1, fun x hx => h.2 x ((Array.perm_iff_toList_perm.mp e).mem_iff.mp hx)⟩
theorem Pl.at {n : Nat} {p : Array Nat} (h : Pl n p) (hn : 0 < n) (i : Nat) : p.getD i 0 < n := by
  by_cases hi : i < p.size
  · have e : p.getD i 0 = p[i] := by simp [Array.getD, hi]
    rw [e]
    exact h.2 _ (by simp)
  · have e : p.getD i 0 = 0 := by simp [Array.getD, hi]
    rw [e]; exact hn
theorem Pl.rev {n : Nat} {p : Array Nat} (h : Pl n p) (i j : Nat) : Pl n (kas_rev p i j) := h.perm (mirror_perm _ _ _ _)
theorem Pl.move {n : Nat} {p : Array Nat} (h : Pl n p) (i j : Nat) : Pl n (bubble p i j) := h.perm (bubble_perm _ _ _)
section
variable {n : Nat} (hn : 0 < n)
include hn
theorem asks_asc {p : Array Nat} (h : Pl n p) : ∀ f k, Asks n (fun _ => True) (kas_asc p f k)
  | 0, _ => .ret trivial
  | f + 1, k => .ask (h.at hn _) (h.at hn _) fun b => by
    (try dsimp only)
    split
    · exact .ret trivial
    · exact asks_asc h f (k + 1)
theorem asks_desc : ∀ f (p : Array Nat) k q, Pl n p → Asks n (fun r : Array Nat × Nat × Nat => Pl n r.1) (kas_desc f p k q)
  | 0, _, _, _, h => .ret h
  | f + 1, p, k, q, h => .ask (h.at hn _) (h.at hn _) fun b => by
    (try dsimp only)
    split
    · split
      · exact asks_desc f _ _ _ (h.rev _ _)
      · exact asks_desc f _ _ _ h
    · refine .ask (h.at hn _) (h.at hn _) fun d => ?_
      (try dsimp only)
      split
      · exact .ret h
      · exact asks_desc f _ _ _ h
theorem asks_tail3 {p : Array Nat} (h : Pl n p) (a b : Nat) : Asks n (fun r : Nat × Array Nat => Pl n r.2) (kas_tail3 a b p) :=
  (asks_asc hn (h.rev _ _) _ _).bind fun _ _ => .ret (h.rev _ _)
theorem asks_descPart {p : Array Nat} (h : Pl n p) (a b : Nat) : Asks n (fun r : Nat × Array Nat => Pl n r.2) (kas_descPart a b p) := by
  refine (asks_desc hn _ _ _ _ h).bind fun r hr => ?_
  split
  · exact asks_tail3 hn (hr.rev _ _) _ _
  · exact asks_tail3 hn hr _ _
theorem asks_count {p : Array Nat} (h : Pl n p) (b : Nat) : Asks n (fun r : Nat × Array Nat => Pl n r.2) (kas_count b p) := by
  refine (asks_asc hn h _ _).bind fun k _ => ?_
  split
  · exact .ret h
  · split
    · refine .ask (h.at hn _) (h.at hn _) fun c => ?_
      (try dsimp only)
      split
      · exact .ret h
      · exact asks_descPart hn (h.rev _ _) _ _
    · exact asks_descPart hn h _ _
theorem asks_place {p : Array Nat} (h : Pl n p) (k : Nat) : ∀ f l r, Asks n (fun _ => True) (kas_place p k f l r)
  | 0, _, _ => .ret trivial
  | f + 1, l, r => by
    unfold kas_place
    split
    · exact .ret trivial
    · refine .ask (h.at hn _) (h.at hn _) fun c => ?_
      (try dsimp only)
      split
      · exact asks_place h k f _ _
      · exact asks_place h k f _ _
theorem asks_bin : ∀ f (p : Array Nat) k, Pl n p → Asks n (Pl n) (kas_bin f p k)
  | 0, _, _, h => .ret h
  | f + 1, p, k, h => (asks_place hn h k k 0 k).bind fun _ _ => asks_bin f _ _ (h.move _ _)
theorem asks_sort : Asks n (Pl n) (kas_sort n) := by
  have h : Pl n (List.toArray (List.range n)) := ⟨by simp, fun x hx => by simpa using hx⟩
  refine (asks_count hn h n).bind fun r hr => ?_
  split
  · exact asks_bin hn _ _ _ hr
  · exact .ret hr
end

section
variable {prog : Program} {w : World} {A : Around} {E : Value → Shared → Prop} {s : Shared}
theorem lt_faults {x y : Addr} {i j : Int} {a b : Str} {t u t' u' : Tok} {Q : Bool → Shared → Prop} (hx : s.heap.get? x = some (tupOf [.int i t, .str a u])) (hy : s.heap.get? y = some (tupOf [.int j t', .str b u'])) (h : ∀ c, Q c s) :
    wpAny (model prog w) A (keyLt' (tuples' true) (.ref x) (.ref y)) Q E s := by
  refine kat_lt hx rfl hy rfl ?_
  refine kat_cons (p := .int i t) (q := .int j t') (wpAny_eqBool_int ?_)
  refine kat_go (fun _ => kat_yes ?_) fun _ => kat_no ?_
  · refine kat_cons (p := .str a u) (q := .str b u') (wpAny_eqBool_str ?_)
    refine kat_go (fun _ => kat_yes (kat_nil (h _))) fun _ => kat_no ?_
    exact kat_one _ _ (lt_str (h _))
  · exact oneLt_int (h _)
theorem faults_tups {h : Heap} {vs : List Value} {fl : List (Int × Str)} (hf : FaultsAre (At h) vs fl) : ∃ fs, KatTups h vs fs ∧ fs.length = vs.length ∧ ∀ v ∈ fs, ∃ i t, v = Value.int i t := by
  induction hf with
  | nil => exact ⟨[], .nil, rfl, fun _ h => nomatch h⟩
  | @cons a i t x u vs fl e _ ih =>
    obtain ⟨fs, h1, h2, h3⟩ := ih
    refine ⟨.int i t :: fs, .cons e rfl rfl rfl h1, by simp [h2], fun v hv => ?_⟩
    rcases List.mem_cons.mp hv with rfl | hv
    · exact ⟨i, t, rfl⟩
    · exact h3 v hv
theorem faults_get {S : Addr → Obj → Prop} {vs : List Value} {fl : List (Int × Str)} (hf : FaultsAre S vs fl) : ∀ {i : Nat}, i < vs.length → ∃ a k x t u, vs.getD i Value.none = .ref a ∧ S a (tupOf [.int k t, .str x u]) := by
  induction hf with
  | nil => intro i hi; exact absurd hi (Nat.not_lt_zero _)
  | @cons a k t x u vs fl e _ ih =>
    intro i hi
    cases i with
    | zero => exact ⟨a, k, x, t, u, rfl, e⟩
    | succ i => simpa using ih (i := i) (by simpa using hi)

theorem sorted_many {h₀ : Heap} {L l : Addr} {m : Str → Option Value} {news : List (Addr × Obj)} {vs : List Value} {fl : List (Int × Str)} {Q : Value → Shared → Prop} (F : Fr h₀ L s.heap m) (N : News h₀ L s.heap news) (hl : s.heap.IsList l vs.toArray)
    (hf : FaultsAre (InL news) vs fl) (h2 : 2 ≤ vs.length) (h64 : vs.length < 64) (h : ∀ D out n h', Fr h₀ L h' m → News h₀ L h' ((D, listOf (List.toArray out) n) :: news) → (∀ q ∈ news, q.1 < D) → out.length = vs.length → Q (.ref D) { s with heap := h' }) :
    wpAny (model prog w) A (call (.builtin "sorted") [.ref l]) Q E s := by
  refine kat_sorted F N hl h2 h64 fun D e1 h' F' N' lt => ?_
  have hf' : FaultsAre (At h') vs fl := hf.mono fun a o _ e => (N' _ (.tail _ e)).1
  obtain ⟨fs, ht, hfl, hint⟩ := faults_tups hf'
  refine kat_kind (s := { s with heap := h' }) (T := .type "int") ht (by omega) (fun v hv => ?_) rfl ?_
  · obtain ⟨i, t, rfl⟩ := hint v hv
    exact Looks.of_pure rfl
  · refine Asks.wp (fun i j C hi hj hC => ?_) (asks_sort (by omega)) fun p hp => ?_
    · obtain ⟨a, k, x, t, u, e, ha⟩ := faults_get hf' hi
      obtain ⟨b, k', x', t', u', e', hb⟩ := faults_get hf' hj
      unfold kas_ask
      rw [e, e']
      exact lt_faults ha hb hC
    · refine KasFin.intro F' N' (.head fun q hq => Nat.ne_of_lt (lt q hq)) fun h'' c F'' N'' => ?_
      exact h D _ c h'' F'' N'' lt (by rw [List.length_map, Array.length_toList]; exact hp.1)

/-- the sort of a list of at most one item -/
theorem sort_one {a : Addr} {vs : List Value} {n : Nat} {P : PySem.Fin → Shared → Prop} (ho : s.heap.get? a = some (seqObj "list" vs.toArray n)) (h2 : vs.length < 2)
    (h : P (.done (.ret .none)) { s with heap := sortedHeap s.heap a vs vs.toArray }) : wpAny (model prog w) A (Builtin.«list.sort» ⟨[.ref a], []⟩) P E s := by
  have hlt : a < s.heap.objs.size := Heap.lt_size ho
  have hs2 : vs.toArray.size < 2 := by rw [List.size_toArray]; exact h2
  rw [list_sort_plain]
  refine wpAny_bind (listItems_at ho rfl (wpAny_bind (listUpdate_at ho rfl ?_)))
  obtain ⟨c, hc⟩ : ∃ c, (s.heap.update a (Obj.mapSeq fun _ => #[])).get? a = some (seqObj "list" #[] c) := ⟨_, get?_update_seq ho fun _ => #[]⟩
  refine wpAny_bind (seqEpoch_at hc rfl (wpAny_bind (wpAny_newTuple (wpAny_bind (wpAny_newList (wpAny_holding ?_))) (by rw [Array.length_toList, List.size_toArray, sizeLine_eq]; omega))))
  have hc' : (((s.heap.update a (Obj.mapSeq fun _ => #[])).push (seqObj "tuple" vs.toArray 0)).push (seqObj "list" #[] 0)).get? a = some (seqObj "list" #[] c) :=
    Heap.get?_push_of_some _ (Heap.get?_push_of_some _ hc)
  show wpAny (model prog w) A _ P E { s with heap := ((s.heap.update a (Obj.mapSeq fun _ => #[])).push (seqObj "tuple" vs.toArray 0)).push (seqObj "list" #[] 0) }
  dsimp only
  rw [if_pos hs2, if_pos hs2]
  refine wpAny_bind (wpAny_pure ?_)
  rw [StateT.run_pure]
  refine wpAny_bind (wpAny_pure ?_)
  dsimp only
  have hz : (vs.toArray.zip vs.toArray).map (·.2) = vs.toArray := by
    rw [← Array.toList_inj]
    simp only [Array.toList_map, Array.toList_zip]
    exact List.map_snd_zip (Nat.le_refl _)
  have h' : ∀ out, out = vs.toArray → P (.done (.ret .none)) { s with heap := sortedHeap s.heap a vs out } := fun out e => e ▸ h
  refine wpAny_bind (seqEpoch_at hc' rfl (wpAny_bind (listUpdate_at hc' rfl ?_ (hsz2 := by show (Array.map (·.2) (vs.toArray.zip vs.toArray)).size ≤ _; rw [hz, List.size_toArray, sizeLine_eq]; omega))))
  simp only [bne_self_eq_false, Bool.false_eq_true, if_false]
  exact wpAny_pure (h' _ hz)

theorem sorted_one {h₀ : Heap} {L l : Addr} {m : Str → Option Value} {news : List (Addr × Obj)} {vs : List Value} {Q : Value → Shared → Prop} (F : Fr h₀ L s.heap m) (N : News h₀ L s.heap news) (hl : s.heap.IsList l vs.toArray)
    (h2 : vs.length < 2) (h : ∀ D n h', Fr h₀ L h' m → News h₀ L h' ((D, listOf (List.toArray vs) n) :: news) → (∀ q ∈ news, q.1 < D) → Q (.ref D) { s with heap := h' }) :
    wpAny (model prog w) A (call (.builtin "sorted") [.ref l]) Q E s := by
  refine Calls.call_function_entry kind_sorted plain_sorted entry_sorted (args_sorted1 _) ?_
  unfold Builtin.«sorted»
  refine wpAny_bind (m := checkCount "sorted" 1 1 _) (wpAny_pure (wpAny_bind (collect_list hl ?_ (by rw [sizeLine_eq]; omega))))
  refine wpAny_bind (wpAny_newList ?_ (by rw [sizeLine_eq]; omega))
  have hsz : ((s.heap.push (seqObj "list" #[] 0)).update s.heap.objs.size (Obj.mapSeq (· ++ vs.toArray))).objs.size = s.heap.objs.size + 1 := by rw [Heap.size_update, size_push']
  have hoL : (((s.heap.push (seqObj "list" #[] 0)).update s.heap.objs.size (Obj.mapSeq (· ++ vs.toArray))).push (seqObj "list" vs.toArray 0)).get? (s.heap.objs.size + 1) = some (seqObj "list" vs.toArray 0) := hsz ▸ Heap.get?_push_size _ rfl
  show wpAny _ _ _ _ _ { s with heap := ((s.heap.push (seqObj "list" #[] 0)).update s.heap.objs.size (Obj.mapSeq (· ++ vs.toArray))).push (seqObj "list" vs.toArray 0) }
  rw [hsz]
  refine wpAny_bind (wpAny_holding (wpAny_call_entry slot_list_sort ⟨_, hoL, rfl⟩ entry_list_sort (sort_one hoL h2 ⟨_, rfl, ?_⟩) (args_list_sort _)))
  obtain ⟨e, he⟩ := sortedAll_at s.heap vs vs.toArray
  exact wpAny_pure ⟨_, rfl, h _ e (sortedAll s.heap vs vs.toArray) (F.kept fun _ _ => sortedAll_old) (N.kept_cons F (fun _ _ => sortedAll_old) (Nat.le_succ _) he) fun q hq => Nat.lt_succ_of_lt (Heap.lt_size (N q hq).1)⟩

theorem sorted_faults {h₀ : Heap} {L l : Addr} {m : Str → Option Value} {news : List (Addr × Obj)} {vs : List Value} {fl : List (Int × Str)} {Q : Value → Shared → Prop} (F : Fr h₀ L s.heap m) (N : News h₀ L s.heap news) (hl : s.heap.IsList l vs.toArray)
    (hf : FaultsAre (InL news) vs fl) (h64 : vs.length < 64) (h : ∀ D out n h', Fr h₀ L h' m → News h₀ L h' ((D, listOf (List.toArray out) n) :: news) → (∀ q ∈ news, q.1 < D) → out.length = vs.length → Q (.ref D) { s with heap := h' }) :
    wpAny (model prog w) A (call (.builtin "sorted") [.ref l]) Q E s := by
  rcases Nat.lt_or_ge vs.length 2 with h2 | h2
  · exact sorted_one F N hl h2 fun D n h' F' N' lt => h D vs n h' F' N' lt rfl
  · exact sorted_many F N hl hf h2 h64 h
end
end
open PySem PySem.W PySem.Calls PyProof.Rows
set_option Elab.async false
set_option maxRecDepth 100000
set_option maxHeartbeats 1000000
section
/-- the end of the first half of a block -/
def CutQ (Mid : Shared → Prop) (Q : Flow → Shared → Prop) : Flow → Shared → Prop
  | .next, s => Mid s
  | f, s => Q f s
section
variable {M : Model} {A : Around} {E : Value → Shared → Prop} {env : Env} {Q : Flow → Shared → Prop} {Mid : Shared → Prop}
/-- a block is walked in two halves, with a word between them -/
theorem execs_cut (ys : List Stmt) (h2 : ∀ s', Mid s' → wpAny M A (execs ys env) Q E s') : ∀ (xs : List Stmt) {s : Shared}, wpAny M A (execs xs env) (CutQ Mid Q) E s → wpAny M A (execs (xs ++ ys) env) Q E s := by
  intro xs s h1 Γ p hΓ
  have h3 := h1 Γ p hΓ
  clear h1
  induction xs generalizing s p with
  | nil => exact h2 s h3 Γ p hΓ
  | cons x xs ih =>
    rw [List.cons_append, execs_cons, Sem.wp_bind']
    rw [execs_cons, Sem.wp_bind'] at h3
    refine Sem.wp_mono M Γ _ (fun f p' s' h' => ?_) (fun _ _ _ h' => h') _ _ h3
    cases f
    case next => exact ih p' h'
    all_goals exact h'
theorem execs_cut4 {a b c d : Stmt} {ys : List Stmt} {s : Shared} (h1 : wpAny M A (execs [a, b, c, d] env) (CutQ Mid Q) E s) (h2 : ∀ s', Mid s' → wpAny M A (execs ys env) Q E s') : wpAny M A (execs (a :: b :: c :: d :: ys) env) Q E s :=
  execs_cut ys h2 [a, b, c, d] h1
end
/-- before the targets: the fault of a scope left open is told -/
def SfCut (h₀ : Heap) (L : Addr) (m₀ : Str → Option Value) (aF aK aP : Addr) (fs qs : List Value) (oK' : Obj) (n2' : Nat) (rest : List (Addr × Obj)) (row : Row) (sc : List Int) (s₁ s₂ : Shared) : Prop :=
  ∃ h' tk fs' n1' fl' rest3, s₂ = { s₁ with heap := h', toks := tk } ∧ Fr h₀ L h' m₀ ∧ News h₀ L h' ((aF, listOf (List.toArray fs') n1') :: (aK, oK') :: (aP, listOf (List.toArray qs) n2') :: rest3) ∧ Off [aF, aK, aP] rest3 ∧ Sub rest rest3 ∧
    FaultsAre (InL rest3) fs' fl' ∧ fs'.length ≤ fs.length + 1 ∧ (fs' = [] → fs = [] ∧ okRow row sc) ∧ (fs' ≠ [] → fs ≠ [] ∨ ¬ okRow row sc)
section
variable {aF aK aP : Addr} {fs : List Value} {n1' n2' : Nat} {oK' : Obj} {qs : List Value} {rest : List (Addr × Obj)} {fl : List (Int × Str)} {m₀ : Str → Option Value} {ad : Int} {sc : List Int} {D : Addr} {us : List Value} {t u : Tok} {x : Str} {row : Row} {s₁ : Shared} {tk : Nat} {h₀ h : Heap} {L : Addr}
theorem sf_cutF (F : Fr h₀ L h m₀) (N : News h₀ L h ((D, tupOf [.int ad t, .str x u]) :: (aF, listOf (List.toArray (fs ++ [.ref D])) n1') :: (aK, oK') :: (aP, listOf (List.toArray qs) n2') :: rest))
    (off : Off [aF, aK, aP] rest) (l1 : @LT.lt Nat _ aF D) (l2 : @LT.lt Nat _ aK D) (l3 : @LT.lt Nat _ aP D) (fa : FaultsAre (InL rest) fs fl)
    (hf : row.falls = false) (hj : (row.name != Str.ofString "jump") = true) (hl : 0 < (us.length : Int)) (hu : us.length = sc.length) : SfCut h₀ L m₀ aF aK aP fs qs oK' n2' rest row sc s₁ { s₁ with heap := h, toks := tk } := by
  refine ⟨_, _, _, _, _, (D, _) :: rest, rfl, F, newsRot4 N, off.new (lt3 l1 l2 l3), (Sub.refl _).cons, (fa.mono fun _ _ _ h => .tail _ h).snoc (.head _), by simp, fun e => absurd e (by simp), fun _ => .inr fun ok => ?_⟩
  have := ok.2 (ends_of hf (by simpa using hj))
  have h0 : us.length = 0 := by rw [hu, this]; rfl
  omega
theorem sf_cutO {sc' : List Int} (F : Fr h₀ L h m₀) (N : News h₀ L h ((aF, listOf (List.toArray fs) n1') :: (aK, oK') :: (aP, listOf (List.toArray qs) n2') :: rest))
    (off : Off [aF, aK, aP] rest) (fa : FaultsAre (InL rest) fs fl) (hbe : behind row sc = some sc') (ok : row.ends = true → sc = []) : SfCut h₀ L m₀ aF aK aP fs qs oK' n2' rest row sc s₁ { s₁ with heap := h, toks := tk } := by
  have hok : okRow row sc := ⟨by rw [hbe]; simp, ok⟩
  exact ⟨_, _, _, _, _, rest, rfl, F, N, off, Sub.refl _, fa, by omega, fun e => ⟨e, hok⟩, fun e => .inl e⟩
theorem sf_cut {prog : Program} {w : World} {A : Around} {E : Value → Shared → Prop} {env : Env} {Q : Flow → Shared → Prop} {s : Shared} {a : Stmt} {ys : List Stmt} {n1 : Nat} (row : Row) (sc : List Int)
    (_F : Fr h₀ L s.heap m₀) (_N : News h₀ L s.heap ((aF, listOf (List.toArray fs) n1) :: (aK, oK') :: (aP, listOf (List.toArray qs) n2') :: rest))
    (h1 : wpAny (model prog w) A (execs [a] env) (CutQ (SfCut h₀ L m₀ aF aK aP fs qs oK' n2' rest row sc s) Q) E s)
    (h2 : ∀ h' tk fs' n1' fl' rest3, Fr h₀ L h' m₀ → News h₀ L h' ((aF, listOf (List.toArray fs') n1') :: (aK, oK') :: (aP, listOf (List.toArray qs) n2') :: rest3) → Off [aF, aK, aP] rest3 → Sub rest rest3 →
      FaultsAre (InL rest3) fs' fl' → fs'.length ≤ fs.length + 1 → (fs' = [] → fs = [] ∧ okRow row sc) → (fs' ≠ [] → fs ≠ [] ∨ ¬ okRow row sc) →
      wpAny (model prog w) A (execs ys env) Q E { s with heap := h', toks := tk }) : wpAny (model prog w) A (execs (a :: ys) env) Q E s :=
  execs_cut ys (fun s' ⟨h', tk, fs', n1', fl', rest3, e, F, N, x1, x2, x3, x4, x5, x6⟩ => by subst e; exact h2 h' tk fs' n1' fl' rest3 F N x1 x2 x3 x4 x5 x6) [a] h1
end
end
open PySem PySem.W PySem.Calls PyProof.Rows
set_option Elab.async false
set_option maxRecDepth 100000
set_option maxHeartbeats 4000000
section
local macro_rules | `(tactic| k_all) => `(tactic| exact Off.ne (by assumption) (by simp))
local macro_rules | `(tactic| k_mem) => `(tactic| first | assumption | (apply Sub.mem; assumption; k_mem))
theorem sf_core {w : World} {mean : ExcName → Option Value} {mg mb : Str → Option Value} {dp un : Nat} {fr : Option (List Env)} {gd : Option (List Code)} {s : Shared} {h₀ : Heap}
    {c : Addr} {vs : List Value} {rows : List Row} {Q : Value → Shared → Prop}
    (hdp : dp + 10 < recursionLimit) (hun : un ≤ 4000)
    (hk₀ : ∀ b o, h₀.get? b = some o → s.heap.get? b = some o) (X₀ : (hd.heap_39 w.params).In h₀) (T₀ : Top hd.view_39 (looseW hd.view_39 []) mean mg mb h₀)
    (hc : s.heap.IsList c vs.toArray) (hr : RowsAt (At s.heap) vs rows) (hl : rows.length ≤ 12) (hd : due rows = [])
    (h : ∀ r out n h' tk₁, Ret s [] { s with heap := h', toks := tk₁ } → h'.get? r = some (listOf (List.toArray out) n) → s.heap.get? r = none → (out = [] ↔ Good rows) → Q (.ref r) { s with heap := h', toks := tk₁ }) :
    wpAny (model PySem.Challenge.rw_nn0292_01.row.prog w) (Ar dp un fr gd) (call (.ref 49) [.ref c]) Q (fun _ _ => False) s := by
  w_top off
  k_with_none
  (k_with "exec While Compare cons nil" => (k_here; with_unfolding_all refine' halt ?_))
  (k_with "exec For Name Call cons nil" => (k_here; (with_unfolding_all refine' for_exec ?_ ?hs_z89); (case hs_z89 => (intro _; with_unfolding_all rfl))))
  (k_with "exec For Name Call cons nil" => (k_here; (with_unfolding_all refine' for_exec ?_ ?hs_z90); (case hs_z90 => (intro _; with_unfolding_all rfl))))
  (k_with "exec For Name Call cons nil" => (k_here; (with_unfolding_all refine' for_exec ?_ ?hs_z91); (case hs_z91 => (intro _; with_unfolding_all rfl))))
  (k_with "exec For Name Call cons nil" => (k_here; (with_unfolding_all refine' for_exec ?_ ?hs_z92); (case hs_z92 => (intro _; with_unfolding_all rfl))))
  (k_with "exec For Name Call cons nil" => (k_here; (with_unfolding_all refine' for_exec ?_ ?hs_z93); (case hs_z93 => (intro _; with_unfolding_all rfl))))
  (k_with "exec For Name Call cons nil" => (k_here; (with_unfolding_all refine' for_exec ?_ ?hs_z94); (case hs_z94 => (intro _; with_unfolding_all rfl))))
  (k_with "call builtin:len" => (k_here; (with_reducible show wpAny _ _ (call (Value.builtin "len") [Value.ref _]) _ _ _); k_dflt (first | (refine' len_list (News.isList ?hl_z95 ?hm_z95) ?hf_z95 ?_; (case hl_z95 => k_asm); (case hm_z95 => k_mem)) | (refine' len_tuple (News.isTup ?hl_z95 ?hm_z95) ?hf_z95 ?_; (case hl_z95 => k_asm); (case hm_z95 => k_mem))); (case hf_z95 => (simp only [List.size_toArray, List.length_append, List.length_nil, List.length_singleton]; omega)); (try simp only [List.size_toArray])))
  (k_with "call builtin:len" => (k_here; (with_reducible show wpAny _ _ (call (Value.builtin "len") [Value.ref _]) _ _ _); k_dflt (first | (refine' len_list (News.isList ?hl_z96 ?hm_z96) ?hf_z96 ?_; (case hl_z96 => k_asm); (case hm_z96 => k_mem)) | (refine' len_tuple (News.isTup ?hl_z96 ?hm_z96) ?hf_z96 ?_; (case hl_z96 => k_asm); (case hm_z96 => k_mem))); (case hf_z96 => (simp only [List.size_toArray, List.length_append, List.length_nil, List.length_singleton]; omega)); (try simp only [List.size_toArray])))
  (k_with "call builtin:len" => (k_here; (with_reducible show wpAny _ _ (call (Value.builtin "len") [Value.ref _]) _ _ _); k_dflt (first | (refine' len_list (News.isList ?hl_z97 ?hm_z97) ?hf_z97 ?_; (case hl_z97 => k_asm); (case hm_z97 => k_mem)) | (refine' len_tuple (News.isTup ?hl_z97 ?hm_z97) ?hf_z97 ?_; (case hl_z97 => k_asm); (case hm_z97 => k_mem))); (case hf_z97 => (simp only [List.size_toArray, List.length_append, List.length_nil, List.length_singleton]; omega)); (try simp only [List.size_toArray])))
  (k_with "call builtin:len" => (k_here; (with_reducible show wpAny _ _ (call (Value.builtin "len") [Value.ref _]) _ _ _); k_dflt (first | (refine' len_list (News.isList ?hl_z98 ?hm_z98) ?hf_z98 ?_; (case hl_z98 => k_asm); (case hm_z98 => k_mem)) | (refine' len_tuple (News.isTup ?hl_z98 ?hm_z98) ?hf_z98 ?_; (case hl_z98 => k_asm); (case hm_z98 => k_mem))); (case hf_z98 => (simp only [List.size_toArray, List.length_append, List.length_nil, List.length_singleton]; omega)); (try simp only [List.size_toArray])))
  (k_with "call builtin:len" => (k_here; (with_reducible show wpAny _ _ (call (Value.builtin "len") [Value.ref _]) _ _ _); k_dflt (first | (refine' len_list (News.isList ?hl_z99 ?hm_z99) ?hf_z99 ?_; (case hl_z99 => k_asm); (case hm_z99 => k_mem)) | (refine' len_tuple (News.isTup ?hl_z99 ?hm_z99) ?hf_z99 ?_; (case hl_z99 => k_asm); (case hm_z99 => k_mem))); (case hf_z99 => (simp only [List.size_toArray, List.length_append, List.length_nil, List.length_singleton]; omega)); (try simp only [List.size_toArray])))
  (k_with "call builtin:len" => (k_here; (with_reducible show wpAny _ _ (call (Value.builtin "len") [Value.ref _]) _ _ _); k_dflt (first | (refine' len_list (News.isList ?hl_z100 ?hm_z100) ?hf_z100 ?_; (case hl_z100 => k_asm); (case hm_z100 => k_mem)) | (refine' len_tuple (News.isTup ?hl_z100 ?hm_z100) ?hf_z100 ?_; (case hl_z100 => k_asm); (case hm_z100 => k_mem))); (case hf_z100 => (simp only [List.size_toArray, List.length_append, List.length_nil, List.length_singleton]; omega)); (try simp only [List.size_toArray])))
  (k_with "call builtin:list.append" => (k_here; (with_reducible show wpAny _ _ (call (Value.builtin _) [Value.ref _, _]) _ _ _); k_dflt (refine' append_K ?k1_z101 ?k2_z101 ?k3_z101 ?_ ?z_z101; (case k1_z101 => k_asm); (case k2_z101 => k_asm); (case k3_z101 => k_upd); (case z_z101 => (rw [PySem.sizeLine_eq]; simp only [List.size_toArray, List.length_append, List.length_singleton]; omega)); k_whole); intro h'_z101 F'_z101 N'_z101; (try simp only [List.push_toArray] at N'_z101); (try k_sweep)))
  (k_with "call builtin:list.append" => (k_here; (with_reducible show wpAny _ _ (call (Value.builtin _) [Value.ref _, _]) _ _ _); k_dflt (refine' append_K ?k1_z102 ?k2_z102 ?k3_z102 ?_ ?z_z102; (case k1_z102 => k_asm); (case k2_z102 => k_asm); (case k3_z102 => k_upd); (case z_z102 => (rw [PySem.sizeLine_eq]; simp only [List.size_toArray, List.length_append, List.length_singleton]; omega)); k_whole); intro h'_z102 F'_z102 N'_z102; (try simp only [List.push_toArray] at N'_z102); (try k_sweep)))
  (k_with "call builtin:list.append" => (k_here; (with_reducible show wpAny _ _ (call (Value.builtin _) [Value.ref _, _]) _ _ _); k_dflt (refine' append_K ?k1_z103 ?k2_z103 ?k3_z103 ?_ ?z_z103; (case k1_z103 => k_asm); (case k2_z103 => k_asm); (case k3_z103 => k_upd); (case z_z103 => (rw [PySem.sizeLine_eq]; simp only [List.size_toArray, List.length_append, List.length_singleton]; omega)); k_whole); intro h'_z103 F'_z103 N'_z103; (try simp only [List.push_toArray] at N'_z103); (try k_sweep)))
  (k_with "call builtin:list.append" => (k_here; (with_reducible show wpAny _ _ (call (Value.builtin _) [Value.ref _, _]) _ _ _); k_dflt (refine' append_K ?k1_z104 ?k2_z104 ?k3_z104 ?_ ?z_z104; (case k1_z104 => k_asm); (case k2_z104 => k_asm); (case k3_z104 => k_upd); (case z_z104 => (rw [PySem.sizeLine_eq]; simp only [List.size_toArray, List.length_append, List.length_singleton]; omega)); k_whole); intro h'_z104 F'_z104 N'_z104; (try simp only [List.push_toArray] at N'_z104); (try k_sweep)))
  (k_with "call builtin:list.append" => (k_here; (with_reducible show wpAny _ _ (call (Value.builtin _) [Value.ref _, _]) _ _ _); k_dflt (refine' append_K ?k1_z105 ?k2_z105 ?k3_z105 ?_ ?z_z105; (case k1_z105 => k_asm); (case k2_z105 => k_asm); (case k3_z105 => k_upd); (case z_z105 => (rw [PySem.sizeLine_eq]; simp only [List.size_toArray, List.length_append, List.length_singleton]; omega)); k_whole); intro h'_z105 F'_z105 N'_z105; (try simp only [List.push_toArray] at N'_z105); (try k_sweep)))
  (k_with "call builtin:list.append" => (k_here; (with_reducible show wpAny _ _ (call (Value.builtin _) [Value.ref _, _]) _ _ _); k_dflt (refine' append_K ?k1_z106 ?k2_z106 ?k3_z106 ?_ ?z_z106; (case k1_z106 => k_asm); (case k2_z106 => k_asm); (case k3_z106 => k_upd); (case z_z106 => (rw [PySem.sizeLine_eq]; simp only [List.size_toArray, List.length_append, List.length_singleton]; omega)); k_whole); intro h'_z106 F'_z106 N'_z106; (try simp only [List.push_toArray] at N'_z106); (try k_sweep)))
  (k_with "subscriptTail" => (k_here; (with_reducible show wpAny _ _ (subscriptTail _ _ (Value.ref _) (Value.int _ _)) _ _ _); k_dflt (refine' item_lst ?hl_z107 ?h0_z107 ?h1_z107 ?hx_z107 ?_ ?hs_z107); (case hl_z107 => is_list); (case h0_z107 => omega); (case h1_z107 => omega); (case hx_z107 => k_dflt assumption); (case hs_z107 => with_unfolding_all rfl)))
  (k_with "subscriptTail" => (k_here; (with_reducible show wpAny _ _ (subscriptTail _ _ (Value.ref _) (Value.int _ _)) _ _ _); k_dflt (refine' item_lst ?hl_z108 ?h0_z108 ?h1_z108 ?hx_z108 ?_ ?hs_z108); (case hl_z108 => is_list); (case h0_z108 => omega); (case h1_z108 => omega); (case hx_z108 => k_dflt assumption); (case hs_z108 => with_unfolding_all rfl)))
  (k_with "subscriptTail" => (k_here; (with_reducible show wpAny _ _ (subscriptTail _ _ (Value.ref _) (Value.int _ _)) _ _ _); k_dflt (refine' item_lst ?hl_z109 ?h0_z109 ?h1_z109 ?hx_z109 ?_ ?hs_z109); (case hl_z109 => is_list); (case h0_z109 => omega); (case h1_z109 => omega); (case hx_z109 => k_dflt assumption); (case hs_z109 => with_unfolding_all rfl)))
  (k_with "subscriptTail" => (k_here; (with_reducible show wpAny _ _ (subscriptTail _ _ (Value.ref _) (Value.int _ _)) _ _ _); k_dflt (refine' item_lst ?hl_z110 ?h0_z110 ?h1_z110 ?hx_z110 ?_ ?hs_z110); (case hl_z110 => is_list); (case h0_z110 => omega); (case h1_z110 => omega); (case hx_z110 => k_dflt assumption); (case hs_z110 => with_unfolding_all rfl)))
  (k_with "subscriptTail" => (k_here; (with_reducible show wpAny _ _ (subscriptTail _ _ (Value.ref _) (Value.int _ _)) _ _ _); k_dflt (refine' item_lst ?hl_z111 ?h0_z111 ?h1_z111 ?hx_z111 ?_ ?hs_z111); (case hl_z111 => is_list); (case h0_z111 => omega); (case h1_z111 => omega); (case hx_z111 => k_dflt assumption); (case hs_z111 => with_unfolding_all rfl)))
  (k_with "subscriptTail" => (k_here; (with_reducible show wpAny _ _ (subscriptTail _ _ (Value.ref _) (Value.int _ _)) _ _ _); k_dflt (refine' item_lst ?hl_z112 ?h0_z112 ?h1_z112 ?hx_z112 ?_ ?hs_z112); (case hl_z112 => is_list); (case h0_z112 => omega); (case h1_z112 => omega); (case hx_z112 => k_dflt assumption); (case hs_z112 => with_unfolding_all rfl)))
  (k_with "compareOp In int ref" => (k_here; k_dflt (refine' kda_in (knd := PySem.intKind _ _) ?N_z113 ?m_z113 ?d_z113 ?l_z113 (intKind_is _ _ _ _) _ ?b_z113 ?_); (case N_z113 => k_asm); (case d_z113 => k_asm); (case m_z113 => k_mem); (case l_z113 => assumption); (case b_z113 => k_dflt assumption)))
  (k_with "compareOp In int ref" => (k_here; k_dflt (refine' kda_in (knd := PySem.intKind _ _) ?N_z114 ?m_z114 ?d_z114 ?l_z114 (intKind_is _ _ _ _) _ ?b_z114 ?_); (case N_z114 => k_asm); (case d_z114 => k_asm); (case m_z114 => k_mem); (case l_z114 => assumption); (case b_z114 => k_dflt assumption)))
  (k_with "compareOp In int ref" => (k_here; k_dflt (refine' kda_in (knd := PySem.intKind _ _) ?N_z115 ?m_z115 ?d_z115 ?l_z115 (intKind_is _ _ _ _) _ ?b_z115 ?_); (case N_z115 => k_asm); (case d_z115 => k_asm); (case m_z115 => k_mem); (case l_z115 => assumption); (case b_z115 => k_dflt assumption)))
  (k_with "compareOp In int ref" => (k_here; k_dflt (refine' kda_in (knd := PySem.intKind _ _) ?N_z116 ?m_z116 ?d_z116 ?l_z116 (intKind_is _ _ _ _) _ ?b_z116 ?_); (case N_z116 => k_asm); (case d_z116 => k_asm); (case m_z116 => k_mem); (case l_z116 => assumption); (case b_z116 => k_dflt assumption)))
  (k_with "compareOp In int ref" => (k_here; k_dflt (refine' kda_in (knd := PySem.intKind _ _) ?N_z117 ?m_z117 ?d_z117 ?l_z117 (intKind_is _ _ _ _) _ ?b_z117 ?_); (case N_z117 => k_asm); (case d_z117 => k_asm); (case m_z117 => k_mem); (case l_z117 => assumption); (case b_z117 => k_dflt assumption)))
  (k_with "compareOp In int ref" => (k_here; k_dflt (refine' kda_in (knd := PySem.intKind _ _) ?N_z118 ?m_z118 ?d_z118 ?l_z118 (intKind_is _ _ _ _) _ ?b_z118 ?_); (case N_z118 => k_asm); (case d_z118 => k_asm); (case m_z118 => k_mem); (case l_z118 => assumption); (case b_z118 => k_dflt assumption)))
  (k_with "subscriptTail" => (k_here; (with_reducible show wpAny _ _ (subscriptTail _ _ (Value.ref _) (Value.int _ _)) _ _ _); k_dflt (refine' kda_item (knd := PySem.intKind _ _) ?N_z119 ?m_z119 ?d_z119 (intKind_is _ _ _ _) ?v_z119 ?_ ?hs_z119 ?hg_z119); (case N_z119 => k_asm); (case d_z119 => k_asm); (case m_z119 => k_mem); (case v_z119 => k_dflt assumption); (case hs_z119 => with_unfolding_all rfl); (case hg_z119 => (intro _; with_unfolding_all rfl))))
  (k_with "subscriptTail" => (k_here; (with_reducible show wpAny _ _ (subscriptTail _ _ (Value.ref _) (Value.int _ _)) _ _ _); k_dflt (refine' kda_item (knd := PySem.intKind _ _) ?N_z120 ?m_z120 ?d_z120 (intKind_is _ _ _ _) ?v_z120 ?_ ?hs_z120 ?hg_z120); (case N_z120 => k_asm); (case d_z120 => k_asm); (case m_z120 => k_mem); (case v_z120 => k_dflt assumption); (case hs_z120 => with_unfolding_all rfl); (case hg_z120 => (intro _; with_unfolding_all rfl))))
  (k_with "subscriptTail" => (k_here; (with_reducible show wpAny _ _ (subscriptTail _ _ (Value.ref _) (Value.int _ _)) _ _ _); k_dflt (refine' kda_item (knd := PySem.intKind _ _) ?N_z121 ?m_z121 ?d_z121 (intKind_is _ _ _ _) ?v_z121 ?_ ?hs_z121 ?hg_z121); (case N_z121 => k_asm); (case d_z121 => k_asm); (case m_z121 => k_mem); (case v_z121 => k_dflt assumption); (case hs_z121 => with_unfolding_all rfl); (case hg_z121 => (intro _; with_unfolding_all rfl))))
  (k_with "subscriptTail" => (k_here; (with_reducible show wpAny _ _ (subscriptTail _ _ (Value.ref _) (Value.int _ _)) _ _ _); k_dflt (refine' kda_item (knd := PySem.intKind _ _) ?N_z122 ?m_z122 ?d_z122 (intKind_is _ _ _ _) ?v_z122 ?_ ?hs_z122 ?hg_z122); (case N_z122 => k_asm); (case d_z122 => k_asm); (case m_z122 => k_mem); (case v_z122 => k_dflt assumption); (case hs_z122 => with_unfolding_all rfl); (case hg_z122 => (intro _; with_unfolding_all rfl))))
  (k_with "subscriptTail" => (k_here; (with_reducible show wpAny _ _ (subscriptTail _ _ (Value.ref _) (Value.int _ _)) _ _ _); k_dflt (refine' kda_item (knd := PySem.intKind _ _) ?N_z123 ?m_z123 ?d_z123 (intKind_is _ _ _ _) ?v_z123 ?_ ?hs_z123 ?hg_z123); (case N_z123 => k_asm); (case d_z123 => k_asm); (case m_z123 => k_mem); (case v_z123 => k_dflt assumption); (case hs_z123 => with_unfolding_all rfl); (case hg_z123 => (intro _; with_unfolding_all rfl))))
  (k_with "subscriptTail" => (k_here; (with_reducible show wpAny _ _ (subscriptTail _ _ (Value.ref _) (Value.int _ _)) _ _ _); k_dflt (refine' kda_item (knd := PySem.intKind _ _) ?N_z124 ?m_z124 ?d_z124 (intKind_is _ _ _ _) ?v_z124 ?_ ?hs_z124 ?hg_z124); (case N_z124 => k_asm); (case d_z124 => k_asm); (case m_z124 => k_mem); (case v_z124 => k_dflt assumption); (case hs_z124 => with_unfolding_all rfl); (case hg_z124 => (intro _; with_unfolding_all rfl))))
  (k_with "setItem ref int" => (k_here; k_dflt (refine' kda_set (knd := PySem.intKind _ _) ?F_z125 ?N_z125 ?U_z125 ?d_z125 (intKind_is _ _ _ _) ?z_z125 ?_; (case F_z125 => k_asm); (case N_z125 => k_asm); (case U_z125 => k_updF); (case d_z125 => k_asm); (case z_z125 => (rw [PySem.sizeLine_eq]; omega))); intro h'_z125 o'_z125 F'_z125 N'_z125 hd'_z125; (try dsimp only at N'_z125); (try k_sweep)))
  (k_with "setItem ref int" => (k_here; k_dflt (refine' kda_set (knd := PySem.intKind _ _) ?F_z126 ?N_z126 ?U_z126 ?d_z126 (intKind_is _ _ _ _) ?z_z126 ?_; (case F_z126 => k_asm); (case N_z126 => k_asm); (case U_z126 => k_updF); (case d_z126 => k_asm); (case z_z126 => (rw [PySem.sizeLine_eq]; omega))); intro h'_z126 o'_z126 F'_z126 N'_z126 hd'_z126; (try dsimp only at N'_z126); (try k_sweep)))
  (k_with "setItem ref int" => (k_here; k_dflt (refine' kda_set (knd := PySem.intKind _ _) ?F_z127 ?N_z127 ?U_z127 ?d_z127 (intKind_is _ _ _ _) ?z_z127 ?_; (case F_z127 => k_asm); (case N_z127 => k_asm); (case U_z127 => k_updF); (case d_z127 => k_asm); (case z_z127 => (rw [PySem.sizeLine_eq]; omega))); intro h'_z127 o'_z127 F'_z127 N'_z127 hd'_z127; (try dsimp only at N'_z127); (try k_sweep)))
  (k_with "setItem ref int" => (k_here; k_dflt (refine' kda_set (knd := PySem.intKind _ _) ?F_z128 ?N_z128 ?U_z128 ?d_z128 (intKind_is _ _ _ _) ?z_z128 ?_; (case F_z128 => k_asm); (case N_z128 => k_asm); (case U_z128 => k_updF); (case d_z128 => k_asm); (case z_z128 => (rw [PySem.sizeLine_eq]; omega))); intro h'_z128 o'_z128 F'_z128 N'_z128 hd'_z128; (try dsimp only at N'_z128); (try k_sweep)))
  (k_with "setItem ref int" => (k_here; k_dflt (refine' kda_set (knd := PySem.intKind _ _) ?F_z129 ?N_z129 ?U_z129 ?d_z129 (intKind_is _ _ _ _) ?z_z129 ?_; (case F_z129 => k_asm); (case N_z129 => k_asm); (case U_z129 => k_updF); (case d_z129 => k_asm); (case z_z129 => (rw [PySem.sizeLine_eq]; omega))); intro h'_z129 o'_z129 F'_z129 N'_z129 hd'_z129; (try dsimp only at N'_z129); (try k_sweep)))
  (k_with "setItem ref int" => (k_here; k_dflt (refine' kda_set (knd := PySem.intKind _ _) ?F_z130 ?N_z130 ?U_z130 ?d_z130 (intKind_is _ _ _ _) ?z_z130 ?_; (case F_z130 => k_asm); (case N_z130 => k_asm); (case U_z130 => k_updF); (case d_z130 => k_asm); (case z_z130 => (rw [PySem.sizeLine_eq]; omega))); intro h'_z130 o'_z130 F'_z130 N'_z130 hd'_z130; (try dsimp only at N'_z130); (try k_sweep)))
  (k_with "compareOp NotEq ref ref" => (k_here; k_dflt (refine' ne_tups (News.isTup ?N_z131 ?a_z131) (News.isTup ?N2_z131 ?b_z131) ?i_z131 ?j_z131 ?u_z131 ?_; (case N_z131 => k_asm); (case a_z131 => k_mem); (case N2_z131 => k_asm); (case b_z131 => k_mem); (case i_z131 => k_asm); (case j_z131 => k_asm); (case u_z131 => ((have hcL'_z131 := cLine_is); simp only [units_in1, units_deeper]; (try dsimp only [Ar]); omega)))))
  (k_with "compareOp NotEq ref ref" => (k_here; k_dflt (refine' ne_tups (News.isTup ?N_z132 ?a_z132) (News.isTup ?N2_z132 ?b_z132) ?i_z132 ?j_z132 ?u_z132 ?_; (case N_z132 => k_asm); (case a_z132 => k_mem); (case N2_z132 => k_asm); (case b_z132 => k_mem); (case i_z132 => k_asm); (case j_z132 => k_asm); (case u_z132 => ((have hcL'_z132 := cLine_is); simp only [units_in1, units_deeper]; (try dsimp only [Ar]); omega)))))
  (k_with "compareOp NotEq ref ref" => (k_here; k_dflt (refine' ne_tups (News.isTup ?N_z133 ?a_z133) (News.isTup ?N2_z133 ?b_z133) ?i_z133 ?j_z133 ?u_z133 ?_; (case N_z133 => k_asm); (case a_z133 => k_mem); (case N2_z133 => k_asm); (case b_z133 => k_mem); (case i_z133 => k_asm); (case j_z133 => k_asm); (case u_z133 => ((have hcL'_z133 := cLine_is); simp only [units_in1, units_deeper]; (try dsimp only [Ar]); omega)))))
  (k_with "compareOp NotEq ref ref" => (k_here; k_dflt (refine' ne_tups (News.isTup ?N_z134 ?a_z134) (News.isTup ?N2_z134 ?b_z134) ?i_z134 ?j_z134 ?u_z134 ?_; (case N_z134 => k_asm); (case a_z134 => k_mem); (case N2_z134 => k_asm); (case b_z134 => k_mem); (case i_z134 => k_asm); (case j_z134 => k_asm); (case u_z134 => ((have hcL'_z134 := cLine_is); simp only [units_in1, units_deeper]; (try dsimp only [Ar]); omega)))))
  (k_with "compareOp NotEq ref ref" => (k_here; k_dflt (refine' ne_tups (News.isTup ?N_z135 ?a_z135) (News.isTup ?N2_z135 ?b_z135) ?i_z135 ?j_z135 ?u_z135 ?_; (case N_z135 => k_asm); (case a_z135 => k_mem); (case N2_z135 => k_asm); (case b_z135 => k_mem); (case i_z135 => k_asm); (case j_z135 => k_asm); (case u_z135 => ((have hcL'_z135 := cLine_is); simp only [units_in1, units_deeper]; (try dsimp only [Ar]); omega)))))
  (k_with "compareOp NotEq ref ref" => (k_here; k_dflt (refine' ne_tups (News.isTup ?N_z136 ?a_z136) (News.isTup ?N2_z136 ?b_z136) ?i_z136 ?j_z136 ?u_z136 ?_; (case N_z136 => k_asm); (case a_z136 => k_mem); (case N2_z136 => k_asm); (case b_z136 => k_mem); (case i_z136 => k_asm); (case j_z136 => k_asm); (case u_z136 => ((have hcL'_z136 := cLine_is); simp only [units_in1, units_deeper]; (try dsimp only [Ar]); omega)))))
  (k_with "call ref" => (k_here; (with_reducible show wpAny _ _ (call (Value.ref 28) [_]) _ _ _); (with_unfolding_all refine' falls_use (S := At _) ?hh_z137 ?hdp_z137 ?F_z137 ?X_z137 ?T_z137 ?N_z137 ?hS_z137 ?hr_z137 ?_); (case hh_z137 => with_unfolding_all exact rfl); (case hdp_z137 => ((try simp only [depth_under_make, depth_under_kw, depth_in1, depth_deeper]); (try dsimp only [Ar]); omega)); (case F_z137 => k_asm); (case X_z137 => k_asm); (case T_z137 => k_asm); (case N_z137 => k_asm); (case hr_z137 => k_dflt assumption); (case hS_z137 => exact Fr.keep (by k_asm)); k_whole; intro h'_z137 tk₁_z137 F'_z137 N'_z137; (try k_sweep)))
  (k_with "call ref" => (k_here; (with_reducible show wpAny _ _ (call (Value.ref 28) [_]) _ _ _); (with_unfolding_all refine' falls_use (S := At _) ?hh_z138 ?hdp_z138 ?F_z138 ?X_z138 ?T_z138 ?N_z138 ?hS_z138 ?hr_z138 ?_); (case hh_z138 => with_unfolding_all exact rfl); (case hdp_z138 => ((try simp only [depth_under_make, depth_under_kw, depth_in1, depth_deeper]); (try dsimp only [Ar]); omega)); (case F_z138 => k_asm); (case X_z138 => k_asm); (case T_z138 => k_asm); (case N_z138 => k_asm); (case hr_z138 => k_dflt assumption); (case hS_z138 => exact Fr.keep (by k_asm)); k_whole; intro h'_z138 tk₁_z138 F'_z138 N'_z138; (try k_sweep)))
  (k_with "call ref" => (k_here; (with_reducible show wpAny _ _ (call (Value.ref 28) [_]) _ _ _); (with_unfolding_all refine' falls_use (S := At _) ?hh_z139 ?hdp_z139 ?F_z139 ?X_z139 ?T_z139 ?N_z139 ?hS_z139 ?hr_z139 ?_); (case hh_z139 => with_unfolding_all exact rfl); (case hdp_z139 => ((try simp only [depth_under_make, depth_under_kw, depth_in1, depth_deeper]); (try dsimp only [Ar]); omega)); (case F_z139 => k_asm); (case X_z139 => k_asm); (case T_z139 => k_asm); (case N_z139 => k_asm); (case hr_z139 => k_dflt assumption); (case hS_z139 => exact Fr.keep (by k_asm)); k_whole; intro h'_z139 tk₁_z139 F'_z139 N'_z139; (try k_sweep)))
  (k_with "call ref" => (k_here; (with_reducible show wpAny _ _ (call (Value.ref 28) [_]) _ _ _); (with_unfolding_all refine' falls_use (S := At _) ?hh_z140 ?hdp_z140 ?F_z140 ?X_z140 ?T_z140 ?N_z140 ?hS_z140 ?hr_z140 ?_); (case hh_z140 => with_unfolding_all exact rfl); (case hdp_z140 => ((try simp only [depth_under_make, depth_under_kw, depth_in1, depth_deeper]); (try dsimp only [Ar]); omega)); (case F_z140 => k_asm); (case X_z140 => k_asm); (case T_z140 => k_asm); (case N_z140 => k_asm); (case hr_z140 => k_dflt assumption); (case hS_z140 => exact Fr.keep (by k_asm)); k_whole; intro h'_z140 tk₁_z140 F'_z140 N'_z140; (try k_sweep)))
  (k_with "call ref" => (k_here; (with_reducible show wpAny _ _ (call (Value.ref 28) [_]) _ _ _); (with_unfolding_all refine' falls_use (S := At _) ?hh_z141 ?hdp_z141 ?F_z141 ?X_z141 ?T_z141 ?N_z141 ?hS_z141 ?hr_z141 ?_); (case hh_z141 => with_unfolding_all exact rfl); (case hdp_z141 => ((try simp only [depth_under_make, depth_under_kw, depth_in1, depth_deeper]); (try dsimp only [Ar]); omega)); (case F_z141 => k_asm); (case X_z141 => k_asm); (case T_z141 => k_asm); (case N_z141 => k_asm); (case hr_z141 => k_dflt assumption); (case hS_z141 => exact Fr.keep (by k_asm)); k_whole; intro h'_z141 tk₁_z141 F'_z141 N'_z141; (try k_sweep)))
  (k_with "call ref" => (k_here; (with_reducible show wpAny _ _ (call (Value.ref 28) [_]) _ _ _); (with_unfolding_all refine' falls_use (S := At _) ?hh_z142 ?hdp_z142 ?F_z142 ?X_z142 ?T_z142 ?N_z142 ?hS_z142 ?hr_z142 ?_); (case hh_z142 => with_unfolding_all exact rfl); (case hdp_z142 => ((try simp only [depth_under_make, depth_under_kw, depth_in1, depth_deeper]); (try dsimp only [Ar]); omega)); (case F_z142 => k_asm); (case X_z142 => k_asm); (case T_z142 => k_asm); (case N_z142 => k_asm); (case hr_z142 => k_dflt assumption); (case hS_z142 => exact Fr.keep (by k_asm)); k_whole; intro h'_z142 tk₁_z142 F'_z142 N'_z142; (try k_sweep)))
  (k_with "call ref" => (k_here; (with_reducible show wpAny _ _ (call (Value.ref 35) [_, _]) _ _ _); (with_unfolding_all refine' behind_no (xs := [_, _, _]) ?hh_z143 ?hdp_z143 ?F_z143 ?X_z143 ?T_z143 ?N_z143 ?hT_z143 ?hoff_z143 ?hxs_z143 ?hr_z143 ?ho_z143 ?hsc_z143 ?hln_z143 ?hb_z143 ?_); (case hh_z143 => with_unfolding_all exact rfl); (case hdp_z143 => ((try simp only [depth_under_make, depth_under_kw, depth_in1, depth_deeper]); (try dsimp only [Ar]); omega)); (case F_z143 => k_asm); (case X_z143 => k_asm); (case T_z143 => k_asm); (case N_z143 => k_asm); (case hoff_z143 => assumption); (case hT_z143 => (first | exact .cons (.cons (.cons .here)) | exact .cons (.cons (.cons (.cons .here))) | exact .cons (.cons (.cons (.cons (.cons .here)))))); (case hxs_z143 => (repeat (first | with_unfolding_all exact List.forall_mem_nil _ | (refine' List.forall_mem_cons.mpr ⟨⟨_, ?q_z143⟩, ?_⟩; (case q_z143 => k_dflt k_mem))))); (case hr_z143 => assumption); (case ho_z143 => k_dflt k_mem); (case hsc_z143 => assumption); (case hln_z143 => omega); (case hb_z143 => k_dflt assumption); k_whole; intro h'_z143 tk₁_z143 rest'_z143 F'_z143 N'_z143 hoff'_z143 hsub_z143; (try k_sweep)))
  (k_with "call ref" => (k_here; (with_reducible show wpAny _ _ (call (Value.ref 35) [_, _]) _ _ _); (with_unfolding_all refine' behind_no (xs := [_, _, _]) ?hh_z144 ?hdp_z144 ?F_z144 ?X_z144 ?T_z144 ?N_z144 ?hT_z144 ?hoff_z144 ?hxs_z144 ?hr_z144 ?ho_z144 ?hsc_z144 ?hln_z144 ?hb_z144 ?_); (case hh_z144 => with_unfolding_all exact rfl); (case hdp_z144 => ((try simp only [depth_under_make, depth_under_kw, depth_in1, depth_deeper]); (try dsimp only [Ar]); omega)); (case F_z144 => k_asm); (case X_z144 => k_asm); (case T_z144 => k_asm); (case N_z144 => k_asm); (case hoff_z144 => assumption); (case hT_z144 => (first | exact .cons (.cons (.cons .here)) | exact .cons (.cons (.cons (.cons .here))) | exact .cons (.cons (.cons (.cons (.cons .here)))))); (case hxs_z144 => (repeat (first | with_unfolding_all exact List.forall_mem_nil _ | (refine' List.forall_mem_cons.mpr ⟨⟨_, ?q_z144⟩, ?_⟩; (case q_z144 => k_dflt k_mem))))); (case hr_z144 => assumption); (case ho_z144 => k_dflt k_mem); (case hsc_z144 => assumption); (case hln_z144 => omega); (case hb_z144 => k_dflt assumption); k_whole; intro h'_z144 tk₁_z144 rest'_z144 F'_z144 N'_z144 hoff'_z144 hsub_z144; (try k_sweep)))
  (k_with "call ref" => (k_here; (with_reducible show wpAny _ _ (call (Value.ref 35) [_, _]) _ _ _); (with_unfolding_all refine' behind_no (xs := [_, _, _]) ?hh_z145 ?hdp_z145 ?F_z145 ?X_z145 ?T_z145 ?N_z145 ?hT_z145 ?hoff_z145 ?hxs_z145 ?hr_z145 ?ho_z145 ?hsc_z145 ?hln_z145 ?hb_z145 ?_); (case hh_z145 => with_unfolding_all exact rfl); (case hdp_z145 => ((try simp only [depth_under_make, depth_under_kw, depth_in1, depth_deeper]); (try dsimp only [Ar]); omega)); (case F_z145 => k_asm); (case X_z145 => k_asm); (case T_z145 => k_asm); (case N_z145 => k_asm); (case hoff_z145 => assumption); (case hT_z145 => (first | exact .cons (.cons (.cons .here)) | exact .cons (.cons (.cons (.cons .here))) | exact .cons (.cons (.cons (.cons (.cons .here)))))); (case hxs_z145 => (repeat (first | with_unfolding_all exact List.forall_mem_nil _ | (refine' List.forall_mem_cons.mpr ⟨⟨_, ?q_z145⟩, ?_⟩; (case q_z145 => k_dflt k_mem))))); (case hr_z145 => assumption); (case ho_z145 => k_dflt k_mem); (case hsc_z145 => assumption); (case hln_z145 => omega); (case hb_z145 => k_dflt assumption); k_whole; intro h'_z145 tk₁_z145 rest'_z145 F'_z145 N'_z145 hoff'_z145 hsub_z145; (try k_sweep)))
  (k_with "call ref" => (k_here; (with_reducible show wpAny _ _ (call (Value.ref 35) [_, _]) _ _ _); (with_unfolding_all refine' behind_no (xs := [_, _, _]) ?hh_z146 ?hdp_z146 ?F_z146 ?X_z146 ?T_z146 ?N_z146 ?hT_z146 ?hoff_z146 ?hxs_z146 ?hr_z146 ?ho_z146 ?hsc_z146 ?hln_z146 ?hb_z146 ?_); (case hh_z146 => with_unfolding_all exact rfl); (case hdp_z146 => ((try simp only [depth_under_make, depth_under_kw, depth_in1, depth_deeper]); (try dsimp only [Ar]); omega)); (case F_z146 => k_asm); (case X_z146 => k_asm); (case T_z146 => k_asm); (case N_z146 => k_asm); (case hoff_z146 => assumption); (case hT_z146 => (first | exact .cons (.cons (.cons .here)) | exact .cons (.cons (.cons (.cons .here))) | exact .cons (.cons (.cons (.cons (.cons .here)))))); (case hxs_z146 => (repeat (first | with_unfolding_all exact List.forall_mem_nil _ | (refine' List.forall_mem_cons.mpr ⟨⟨_, ?q_z146⟩, ?_⟩; (case q_z146 => k_dflt k_mem))))); (case hr_z146 => assumption); (case ho_z146 => k_dflt k_mem); (case hsc_z146 => assumption); (case hln_z146 => omega); (case hb_z146 => k_dflt assumption); k_whole; intro h'_z146 tk₁_z146 rest'_z146 F'_z146 N'_z146 hoff'_z146 hsub_z146; (try k_sweep)))
  (k_with "call ref" => (k_here; (with_reducible show wpAny _ _ (call (Value.ref 35) [_, _]) _ _ _); (with_unfolding_all refine' behind_no (xs := [_, _, _]) ?hh_z147 ?hdp_z147 ?F_z147 ?X_z147 ?T_z147 ?N_z147 ?hT_z147 ?hoff_z147 ?hxs_z147 ?hr_z147 ?ho_z147 ?hsc_z147 ?hln_z147 ?hb_z147 ?_); (case hh_z147 => with_unfolding_all exact rfl); (case hdp_z147 => ((try simp only [depth_under_make, depth_under_kw, depth_in1, depth_deeper]); (try dsimp only [Ar]); omega)); (case F_z147 => k_asm); (case X_z147 => k_asm); (case T_z147 => k_asm); (case N_z147 => k_asm); (case hoff_z147 => assumption); (case hT_z147 => (first | exact .cons (.cons (.cons .here)) | exact .cons (.cons (.cons (.cons .here))) | exact .cons (.cons (.cons (.cons (.cons .here)))))); (case hxs_z147 => (repeat (first | with_unfolding_all exact List.forall_mem_nil _ | (refine' List.forall_mem_cons.mpr ⟨⟨_, ?q_z147⟩, ?_⟩; (case q_z147 => k_dflt k_mem))))); (case hr_z147 => assumption); (case ho_z147 => k_dflt k_mem); (case hsc_z147 => assumption); (case hln_z147 => omega); (case hb_z147 => k_dflt assumption); k_whole; intro h'_z147 tk₁_z147 rest'_z147 F'_z147 N'_z147 hoff'_z147 hsub_z147; (try k_sweep)))
  (k_with "call ref" => (k_here; (with_reducible show wpAny _ _ (call (Value.ref 35) [_, _]) _ _ _); (with_unfolding_all refine' behind_no (xs := [_, _, _]) ?hh_z148 ?hdp_z148 ?F_z148 ?X_z148 ?T_z148 ?N_z148 ?hT_z148 ?hoff_z148 ?hxs_z148 ?hr_z148 ?ho_z148 ?hsc_z148 ?hln_z148 ?hb_z148 ?_); (case hh_z148 => with_unfolding_all exact rfl); (case hdp_z148 => ((try simp only [depth_under_make, depth_under_kw, depth_in1, depth_deeper]); (try dsimp only [Ar]); omega)); (case F_z148 => k_asm); (case X_z148 => k_asm); (case T_z148 => k_asm); (case N_z148 => k_asm); (case hoff_z148 => assumption); (case hT_z148 => (first | exact .cons (.cons (.cons .here)) | exact .cons (.cons (.cons (.cons .here))) | exact .cons (.cons (.cons (.cons (.cons .here)))))); (case hxs_z148 => (repeat (first | with_unfolding_all exact List.forall_mem_nil _ | (refine' List.forall_mem_cons.mpr ⟨⟨_, ?q_z148⟩, ?_⟩; (case q_z148 => k_dflt k_mem))))); (case hr_z148 => assumption); (case ho_z148 => k_dflt k_mem); (case hsc_z148 => assumption); (case hln_z148 => omega); (case hb_z148 => k_dflt assumption); k_whole; intro h'_z148 tk₁_z148 rest'_z148 F'_z148 N'_z148 hoff'_z148 hsub_z148; (try k_sweep)))
  (k_with "call ref" => (k_here; (with_reducible show wpAny _ _ (call (Value.ref 35) [_, _]) _ _ _); (with_unfolding_all refine' behind_ok (xs := [_, _, _]) ?hh_z149 ?hdp_z149 ?F_z149 ?X_z149 ?T_z149 ?N_z149 ?hT_z149 ?hoff_z149 ?hxs_z149 ?hr_z149 ?ho_z149 ?hsc_z149 ?hln_z149 ?hb_z149 ?_); (case hh_z149 => with_unfolding_all exact rfl); (case hdp_z149 => ((try simp only [depth_under_make, depth_under_kw, depth_in1, depth_deeper]); (try dsimp only [Ar]); omega)); (case F_z149 => k_asm); (case X_z149 => k_asm); (case T_z149 => k_asm); (case N_z149 => k_asm); (case hoff_z149 => assumption); (case hT_z149 => (first | exact .cons (.cons (.cons .here)) | exact .cons (.cons (.cons (.cons .here))) | exact .cons (.cons (.cons (.cons (.cons .here)))))); (case hxs_z149 => (repeat (first | with_unfolding_all exact List.forall_mem_nil _ | (refine' List.forall_mem_cons.mpr ⟨⟨_, ?q_z149⟩, ?_⟩; (case q_z149 => k_dflt k_mem))))); (case hr_z149 => assumption); (case ho_z149 => k_dflt k_mem); (case hsc_z149 => assumption); (case hln_z149 => omega); (case hb_z149 => k_dflt assumption); k_whole; intro b_z149 us'_z149 h'_z149 tk₁_z149 rest'_z149 F'_z149 N'_z149 hoff'_z149 hsub_z149 hmb_z149 hib_z149; (try k_sweep)))
  (k_with "call ref" => (k_here; (with_reducible show wpAny _ _ (call (Value.ref 35) [_, _]) _ _ _); (with_unfolding_all refine' behind_ok (xs := [_, _, _]) ?hh_z150 ?hdp_z150 ?F_z150 ?X_z150 ?T_z150 ?N_z150 ?hT_z150 ?hoff_z150 ?hxs_z150 ?hr_z150 ?ho_z150 ?hsc_z150 ?hln_z150 ?hb_z150 ?_); (case hh_z150 => with_unfolding_all exact rfl); (case hdp_z150 => ((try simp only [depth_under_make, depth_under_kw, depth_in1, depth_deeper]); (try dsimp only [Ar]); omega)); (case F_z150 => k_asm); (case X_z150 => k_asm); (case T_z150 => k_asm); (case N_z150 => k_asm); (case hoff_z150 => assumption); (case hT_z150 => (first | exact .cons (.cons (.cons .here)) | exact .cons (.cons (.cons (.cons .here))) | exact .cons (.cons (.cons (.cons (.cons .here)))))); (case hxs_z150 => (repeat (first | with_unfolding_all exact List.forall_mem_nil _ | (refine' List.forall_mem_cons.mpr ⟨⟨_, ?q_z150⟩, ?_⟩; (case q_z150 => k_dflt k_mem))))); (case hr_z150 => assumption); (case ho_z150 => k_dflt k_mem); (case hsc_z150 => assumption); (case hln_z150 => omega); (case hb_z150 => k_dflt assumption); k_whole; intro b_z150 us'_z150 h'_z150 tk₁_z150 rest'_z150 F'_z150 N'_z150 hoff'_z150 hsub_z150 hmb_z150 hib_z150; (try k_sweep)))
  (k_with "call ref" => (k_here; (with_reducible show wpAny _ _ (call (Value.ref 35) [_, _]) _ _ _); (with_unfolding_all refine' behind_ok (xs := [_, _, _]) ?hh_z151 ?hdp_z151 ?F_z151 ?X_z151 ?T_z151 ?N_z151 ?hT_z151 ?hoff_z151 ?hxs_z151 ?hr_z151 ?ho_z151 ?hsc_z151 ?hln_z151 ?hb_z151 ?_); (case hh_z151 => with_unfolding_all exact rfl); (case hdp_z151 => ((try simp only [depth_under_make, depth_under_kw, depth_in1, depth_deeper]); (try dsimp only [Ar]); omega)); (case F_z151 => k_asm); (case X_z151 => k_asm); (case T_z151 => k_asm); (case N_z151 => k_asm); (case hoff_z151 => assumption); (case hT_z151 => (first | exact .cons (.cons (.cons .here)) | exact .cons (.cons (.cons (.cons .here))) | exact .cons (.cons (.cons (.cons (.cons .here)))))); (case hxs_z151 => (repeat (first | with_unfolding_all exact List.forall_mem_nil _ | (refine' List.forall_mem_cons.mpr ⟨⟨_, ?q_z151⟩, ?_⟩; (case q_z151 => k_dflt k_mem))))); (case hr_z151 => assumption); (case ho_z151 => k_dflt k_mem); (case hsc_z151 => assumption); (case hln_z151 => omega); (case hb_z151 => k_dflt assumption); k_whole; intro b_z151 us'_z151 h'_z151 tk₁_z151 rest'_z151 F'_z151 N'_z151 hoff'_z151 hsub_z151 hmb_z151 hib_z151; (try k_sweep)))
  (k_with "call ref" => (k_here; (with_reducible show wpAny _ _ (call (Value.ref 35) [_, _]) _ _ _); (with_unfolding_all refine' behind_ok (xs := [_, _, _]) ?hh_z152 ?hdp_z152 ?F_z152 ?X_z152 ?T_z152 ?N_z152 ?hT_z152 ?hoff_z152 ?hxs_z152 ?hr_z152 ?ho_z152 ?hsc_z152 ?hln_z152 ?hb_z152 ?_); (case hh_z152 => with_unfolding_all exact rfl); (case hdp_z152 => ((try simp only [depth_under_make, depth_under_kw, depth_in1, depth_deeper]); (try dsimp only [Ar]); omega)); (case F_z152 => k_asm); (case X_z152 => k_asm); (case T_z152 => k_asm); (case N_z152 => k_asm); (case hoff_z152 => assumption); (case hT_z152 => (first | exact .cons (.cons (.cons .here)) | exact .cons (.cons (.cons (.cons .here))) | exact .cons (.cons (.cons (.cons (.cons .here)))))); (case hxs_z152 => (repeat (first | with_unfolding_all exact List.forall_mem_nil _ | (refine' List.forall_mem_cons.mpr ⟨⟨_, ?q_z152⟩, ?_⟩; (case q_z152 => k_dflt k_mem))))); (case hr_z152 => assumption); (case ho_z152 => k_dflt k_mem); (case hsc_z152 => assumption); (case hln_z152 => omega); (case hb_z152 => k_dflt assumption); k_whole; intro b_z152 us'_z152 h'_z152 tk₁_z152 rest'_z152 F'_z152 N'_z152 hoff'_z152 hsub_z152 hmb_z152 hib_z152; (try k_sweep)))
  (k_with "call ref" => (k_here; (with_reducible show wpAny _ _ (call (Value.ref 35) [_, _]) _ _ _); (with_unfolding_all refine' behind_ok (xs := [_, _, _]) ?hh_z153 ?hdp_z153 ?F_z153 ?X_z153 ?T_z153 ?N_z153 ?hT_z153 ?hoff_z153 ?hxs_z153 ?hr_z153 ?ho_z153 ?hsc_z153 ?hln_z153 ?hb_z153 ?_); (case hh_z153 => with_unfolding_all exact rfl); (case hdp_z153 => ((try simp only [depth_under_make, depth_under_kw, depth_in1, depth_deeper]); (try dsimp only [Ar]); omega)); (case F_z153 => k_asm); (case X_z153 => k_asm); (case T_z153 => k_asm); (case N_z153 => k_asm); (case hoff_z153 => assumption); (case hT_z153 => (first | exact .cons (.cons (.cons .here)) | exact .cons (.cons (.cons (.cons .here))) | exact .cons (.cons (.cons (.cons (.cons .here)))))); (case hxs_z153 => (repeat (first | with_unfolding_all exact List.forall_mem_nil _ | (refine' List.forall_mem_cons.mpr ⟨⟨_, ?q_z153⟩, ?_⟩; (case q_z153 => k_dflt k_mem))))); (case hr_z153 => assumption); (case ho_z153 => k_dflt k_mem); (case hsc_z153 => assumption); (case hln_z153 => omega); (case hb_z153 => k_dflt assumption); k_whole; intro b_z153 us'_z153 h'_z153 tk₁_z153 rest'_z153 F'_z153 N'_z153 hoff'_z153 hsub_z153 hmb_z153 hib_z153; (try k_sweep)))
  (k_with "call ref" => (k_here; (with_reducible show wpAny _ _ (call (Value.ref 35) [_, _]) _ _ _); (with_unfolding_all refine' behind_ok (xs := [_, _, _]) ?hh_z154 ?hdp_z154 ?F_z154 ?X_z154 ?T_z154 ?N_z154 ?hT_z154 ?hoff_z154 ?hxs_z154 ?hr_z154 ?ho_z154 ?hsc_z154 ?hln_z154 ?hb_z154 ?_); (case hh_z154 => with_unfolding_all exact rfl); (case hdp_z154 => ((try simp only [depth_under_make, depth_under_kw, depth_in1, depth_deeper]); (try dsimp only [Ar]); omega)); (case F_z154 => k_asm); (case X_z154 => k_asm); (case T_z154 => k_asm); (case N_z154 => k_asm); (case hoff_z154 => assumption); (case hT_z154 => (first | exact .cons (.cons (.cons .here)) | exact .cons (.cons (.cons (.cons .here))) | exact .cons (.cons (.cons (.cons (.cons .here)))))); (case hxs_z154 => (repeat (first | with_unfolding_all exact List.forall_mem_nil _ | (refine' List.forall_mem_cons.mpr ⟨⟨_, ?q_z154⟩, ?_⟩; (case q_z154 => k_dflt k_mem))))); (case hr_z154 => assumption); (case ho_z154 => k_dflt k_mem); (case hsc_z154 => assumption); (case hln_z154 => omega); (case hb_z154 => k_dflt assumption); k_whole; intro b_z154 us'_z154 h'_z154 tk₁_z154 rest'_z154 F'_z154 N'_z154 hoff'_z154 hsub_z154 hmb_z154 hib_z154; (try k_sweep)))
  (k_with "call ref" => (k_here; (with_reducible show wpAny _ _ (call (Value.ref 21) [_]) _ _ _); (with_unfolding_all refine' targets_use (xs := [_, _, _]) ?hh_z155 ?hdp_z155 ?F_z155 ?X_z155 ?T_z155 ?N_z155 ?hT_z155 ?hoff_z155 ?hxs_z155 ?hr_z155 ?_); (case hh_z155 => with_unfolding_all exact rfl); (case hdp_z155 => ((try simp only [depth_under_make, depth_under_kw, depth_in1, depth_deeper]); (try dsimp only [Ar]); omega)); (case F_z155 => k_asm); (case X_z155 => k_asm); (case T_z155 => k_asm); (case N_z155 => k_asm); (case hoff_z155 => assumption); (case hT_z155 => (first | exact .cons (.cons (.cons .here)) | exact .cons (.cons (.cons (.cons .here))) | exact .cons (.cons (.cons (.cons (.cons .here)))))); (case hxs_z155 => (repeat (first | with_unfolding_all exact List.forall_mem_nil _ | (refine' List.forall_mem_cons.mpr ⟨⟨_, ?q_z155⟩, ?_⟩; (case q_z155 => k_dflt k_mem))))); (case hr_z155 => assumption); k_whole; intro r_z155 its_z155 h'_z155 tk₁_z155 rest'_z155 F'_z155 N'_z155 hoff'_z155 hsub_z155 hsrc_z155 hits_z155; (try k_sweep)))
  (k_with "call ref" => (k_here; (with_reducible show wpAny _ _ (call (Value.ref 21) [_]) _ _ _); (with_unfolding_all refine' targets_use (xs := [_, _, _]) ?hh_z156 ?hdp_z156 ?F_z156 ?X_z156 ?T_z156 ?N_z156 ?hT_z156 ?hoff_z156 ?hxs_z156 ?hr_z156 ?_); (case hh_z156 => with_unfolding_all exact rfl); (case hdp_z156 => ((try simp only [depth_under_make, depth_under_kw, depth_in1, depth_deeper]); (try dsimp only [Ar]); omega)); (case F_z156 => k_asm); (case X_z156 => k_asm); (case T_z156 => k_asm); (case N_z156 => k_asm); (case hoff_z156 => assumption); (case hT_z156 => (first | exact .cons (.cons (.cons .here)) | exact .cons (.cons (.cons (.cons .here))) | exact .cons (.cons (.cons (.cons (.cons .here)))))); (case hxs_z156 => (repeat (first | with_unfolding_all exact List.forall_mem_nil _ | (refine' List.forall_mem_cons.mpr ⟨⟨_, ?q_z156⟩, ?_⟩; (case q_z156 => k_dflt k_mem))))); (case hr_z156 => assumption); k_whole; intro r_z156 its_z156 h'_z156 tk₁_z156 rest'_z156 F'_z156 N'_z156 hoff'_z156 hsub_z156 hsrc_z156 hits_z156; (try k_sweep)))
  (k_with "call ref" => (k_here; (with_reducible show wpAny _ _ (call (Value.ref 21) [_]) _ _ _); (with_unfolding_all refine' targets_use (xs := [_, _, _]) ?hh_z157 ?hdp_z157 ?F_z157 ?X_z157 ?T_z157 ?N_z157 ?hT_z157 ?hoff_z157 ?hxs_z157 ?hr_z157 ?_); (case hh_z157 => with_unfolding_all exact rfl); (case hdp_z157 => ((try simp only [depth_under_make, depth_under_kw, depth_in1, depth_deeper]); (try dsimp only [Ar]); omega)); (case F_z157 => k_asm); (case X_z157 => k_asm); (case T_z157 => k_asm); (case N_z157 => k_asm); (case hoff_z157 => assumption); (case hT_z157 => (first | exact .cons (.cons (.cons .here)) | exact .cons (.cons (.cons (.cons .here))) | exact .cons (.cons (.cons (.cons (.cons .here)))))); (case hxs_z157 => (repeat (first | with_unfolding_all exact List.forall_mem_nil _ | (refine' List.forall_mem_cons.mpr ⟨⟨_, ?q_z157⟩, ?_⟩; (case q_z157 => k_dflt k_mem))))); (case hr_z157 => assumption); k_whole; intro r_z157 its_z157 h'_z157 tk₁_z157 rest'_z157 F'_z157 N'_z157 hoff'_z157 hsub_z157 hsrc_z157 hits_z157; (try k_sweep)))
  (k_with "call ref" => (k_here; (with_reducible show wpAny _ _ (call (Value.ref 21) [_]) _ _ _); (with_unfolding_all refine' targets_use (xs := [_, _, _]) ?hh_z158 ?hdp_z158 ?F_z158 ?X_z158 ?T_z158 ?N_z158 ?hT_z158 ?hoff_z158 ?hxs_z158 ?hr_z158 ?_); (case hh_z158 => with_unfolding_all exact rfl); (case hdp_z158 => ((try simp only [depth_under_make, depth_under_kw, depth_in1, depth_deeper]); (try dsimp only [Ar]); omega)); (case F_z158 => k_asm); (case X_z158 => k_asm); (case T_z158 => k_asm); (case N_z158 => k_asm); (case hoff_z158 => assumption); (case hT_z158 => (first | exact .cons (.cons (.cons .here)) | exact .cons (.cons (.cons (.cons .here))) | exact .cons (.cons (.cons (.cons (.cons .here)))))); (case hxs_z158 => (repeat (first | with_unfolding_all exact List.forall_mem_nil _ | (refine' List.forall_mem_cons.mpr ⟨⟨_, ?q_z158⟩, ?_⟩; (case q_z158 => k_dflt k_mem))))); (case hr_z158 => assumption); k_whole; intro r_z158 its_z158 h'_z158 tk₁_z158 rest'_z158 F'_z158 N'_z158 hoff'_z158 hsub_z158 hsrc_z158 hits_z158; (try k_sweep)))
  (k_with "call ref" => (k_here; (with_reducible show wpAny _ _ (call (Value.ref 21) [_]) _ _ _); (with_unfolding_all refine' targets_use (xs := [_, _, _]) ?hh_z159 ?hdp_z159 ?F_z159 ?X_z159 ?T_z159 ?N_z159 ?hT_z159 ?hoff_z159 ?hxs_z159 ?hr_z159 ?_); (case hh_z159 => with_unfolding_all exact rfl); (case hdp_z159 => ((try simp only [depth_under_make, depth_under_kw, depth_in1, depth_deeper]); (try dsimp only [Ar]); omega)); (case F_z159 => k_asm); (case X_z159 => k_asm); (case T_z159 => k_asm); (case N_z159 => k_asm); (case hoff_z159 => assumption); (case hT_z159 => (first | exact .cons (.cons (.cons .here)) | exact .cons (.cons (.cons (.cons .here))) | exact .cons (.cons (.cons (.cons (.cons .here)))))); (case hxs_z159 => (repeat (first | with_unfolding_all exact List.forall_mem_nil _ | (refine' List.forall_mem_cons.mpr ⟨⟨_, ?q_z159⟩, ?_⟩; (case q_z159 => k_dflt k_mem))))); (case hr_z159 => assumption); k_whole; intro r_z159 its_z159 h'_z159 tk₁_z159 rest'_z159 F'_z159 N'_z159 hoff'_z159 hsub_z159 hsrc_z159 hits_z159; (try k_sweep)))
  (k_with "call ref" => (k_here; (with_reducible show wpAny _ _ (call (Value.ref 21) [_]) _ _ _); (with_unfolding_all refine' targets_use (xs := [_, _, _]) ?hh_z160 ?hdp_z160 ?F_z160 ?X_z160 ?T_z160 ?N_z160 ?hT_z160 ?hoff_z160 ?hxs_z160 ?hr_z160 ?_); (case hh_z160 => with_unfolding_all exact rfl); (case hdp_z160 => ((try simp only [depth_under_make, depth_under_kw, depth_in1, depth_deeper]); (try dsimp only [Ar]); omega)); (case F_z160 => k_asm); (case X_z160 => k_asm); (case T_z160 => k_asm); (case N_z160 => k_asm); (case hoff_z160 => assumption); (case hT_z160 => (first | exact .cons (.cons (.cons .here)) | exact .cons (.cons (.cons (.cons .here))) | exact .cons (.cons (.cons (.cons (.cons .here)))))); (case hxs_z160 => (repeat (first | with_unfolding_all exact List.forall_mem_nil _ | (refine' List.forall_mem_cons.mpr ⟨⟨_, ?q_z160⟩, ?_⟩; (case q_z160 => k_dflt k_mem))))); (case hr_z160 => assumption); k_whole; intro r_z160 its_z160 h'_z160 tk₁_z160 rest'_z160 F'_z160 N'_z160 hoff'_z160 hsub_z160 hsrc_z160 hits_z160; (try k_sweep)))
  (k_with "call builtin:list.pop" => (k_here; k_dflt (refine' pop_last ?F_z161 ?N_z161 ?U_z161 ?z_z161 ?_); (case F_z161 => k_asm); (case N_z161 => k_asm); (case U_z161 => k_upd); (case z_z161 => omega); k_whole; intro h'_z161 F'_z161 N'_z161; (try dsimp only at N'_z161); (try k_sweep)))
  (k_with "call builtin:list.pop" => (k_here; k_dflt (refine' pop_last ?F_z162 ?N_z162 ?U_z162 ?z_z162 ?_); (case F_z162 => k_asm); (case N_z162 => k_asm); (case U_z162 => k_upd); (case z_z162 => omega); k_whole; intro h'_z162 F'_z162 N'_z162; (try dsimp only at N'_z162); (try k_sweep)))
  (k_with "call builtin:list.pop" => (k_here; k_dflt (refine' pop_last ?F_z163 ?N_z163 ?U_z163 ?z_z163 ?_); (case F_z163 => k_asm); (case N_z163 => k_asm); (case U_z163 => k_upd); (case z_z163 => omega); k_whole; intro h'_z163 F'_z163 N'_z163; (try dsimp only at N'_z163); (try k_sweep)))
  (k_with "call builtin:list.pop" => (k_here; k_dflt (refine' pop_last ?F_z164 ?N_z164 ?U_z164 ?z_z164 ?_); (case F_z164 => k_asm); (case N_z164 => k_asm); (case U_z164 => k_upd); (case z_z164 => omega); k_whole; intro h'_z164 F'_z164 N'_z164; (try dsimp only at N'_z164); (try k_sweep)))
  (k_with "call builtin:list.pop" => (k_here; k_dflt (refine' pop_last ?F_z165 ?N_z165 ?U_z165 ?z_z165 ?_); (case F_z165 => k_asm); (case N_z165 => k_asm); (case U_z165 => k_upd); (case z_z165 => omega); k_whole; intro h'_z165 F'_z165 N'_z165; (try dsimp only at N'_z165); (try k_sweep)))
  (k_with "call builtin:list.pop" => (k_here; k_dflt (refine' pop_last ?F_z166 ?N_z166 ?U_z166 ?z_z166 ?_); (case F_z166 => k_asm); (case N_z166 => k_asm); (case U_z166 => k_upd); (case z_z166 => omega); k_whole; intro h'_z166 F'_z166 N'_z166; (try dsimp only at N'_z166); (try k_sweep)))
  (k_with "newTuple" => (k_here; k_dflt (refine' kup_newTuple ?F_z167 ?N_z167 ?_ ?z_z167; (case F_z167 => k_asm); (case N_z167 => k_asm); (case z_z167 => kmk_size)); intro D'_z167 h'_z167 F'_z167 N'_z167 l1_z167; (try k_lt l1_z167); (try k_sweep)))
  (k_with "newTuple" => (k_here; k_dflt (refine' kup_newTuple ?F_z168 ?N_z168 ?_ ?z_z168; (case F_z168 => k_asm); (case N_z168 => k_asm); (case z_z168 => kmk_size)); intro D'_z168 h'_z168 F'_z168 N'_z168 l1_z168; (try k_lt l1_z168); (try k_sweep)))
  (k_with "newTuple" => (k_here; k_dflt (refine' kup_newTuple ?F_z169 ?N_z169 ?_ ?z_z169; (case F_z169 => k_asm); (case N_z169 => k_asm); (case z_z169 => kmk_size)); intro D'_z169 h'_z169 F'_z169 N'_z169 l1_z169; (try k_lt l1_z169); (try k_sweep)))
  (k_with "newTuple" => (k_here; k_dflt (refine' kup_newTuple ?F_z170 ?N_z170 ?_ ?z_z170; (case F_z170 => k_asm); (case N_z170 => k_asm); (case z_z170 => kmk_size)); intro D'_z170 h'_z170 F'_z170 N'_z170 l1_z170; (try k_lt l1_z170); (try k_sweep)))
  (k_with "newTuple" => (k_here; k_dflt (refine' kup_newTuple ?F_z171 ?N_z171 ?_ ?z_z171; (case F_z171 => k_asm); (case N_z171 => k_asm); (case z_z171 => kmk_size)); intro D'_z171 h'_z171 F'_z171 N'_z171 l1_z171; (try k_lt l1_z171); (try k_sweep)))
  (k_with "newTuple" => (k_here; k_dflt (refine' kup_newTuple ?F_z172 ?N_z172 ?_ ?z_z172; (case F_z172 => k_asm); (case N_z172 => k_asm); (case z_z172 => kmk_size)); intro D'_z172 h'_z172 F'_z172 N'_z172 l1_z172; (try k_lt l1_z172); (try k_sweep)))
  (k_with "subscriptTail" => (k_here; (with_reducible show wpAny _ _ (subscriptTail _ _ (Value.ref _) (Value.int 0 _)) _ _ _); k_dflt (refine' item_first (Fr.tup ?F_z173 ?t_z173) ?_ ?hs_z173 ?hg_z173); (case F_z173 => assumption); (case t_z173 => assumption); (case hs_z173 => with_unfolding_all rfl); (case hg_z173 => (intro _; with_unfolding_all rfl))))
  (k_with "subscriptTail" => (k_here; (with_reducible show wpAny _ _ (subscriptTail _ _ (Value.ref _) (Value.int 0 _)) _ _ _); k_dflt (refine' item_first (Fr.tup ?F_z174 ?t_z174) ?_ ?hs_z174 ?hg_z174); (case F_z174 => assumption); (case t_z174 => assumption); (case hs_z174 => with_unfolding_all rfl); (case hg_z174 => (intro _; with_unfolding_all rfl))))
  (k_with "subscriptTail" => (k_here; (with_reducible show wpAny _ _ (subscriptTail _ _ (Value.ref _) (Value.int 0 _)) _ _ _); k_dflt (refine' item_first (Fr.tup ?F_z175 ?t_z175) ?_ ?hs_z175 ?hg_z175); (case F_z175 => assumption); (case t_z175 => assumption); (case hs_z175 => with_unfolding_all rfl); (case hg_z175 => (intro _; with_unfolding_all rfl))))
  (k_with "subscriptTail" => (k_here; (with_reducible show wpAny _ _ (subscriptTail _ _ (Value.ref _) (Value.int 0 _)) _ _ _); k_dflt (refine' item_first (Fr.tup ?F_z176 ?t_z176) ?_ ?hs_z176 ?hg_z176); (case F_z176 => assumption); (case t_z176 => assumption); (case hs_z176 => with_unfolding_all rfl); (case hg_z176 => (intro _; with_unfolding_all rfl))))
  (k_with "subscriptTail" => (k_here; (with_reducible show wpAny _ _ (subscriptTail _ _ (Value.ref _) (Value.int 0 _)) _ _ _); k_dflt (refine' item_first (Fr.tup ?F_z177 ?t_z177) ?_ ?hs_z177 ?hg_z177); (case F_z177 => assumption); (case t_z177 => assumption); (case hs_z177 => with_unfolding_all rfl); (case hg_z177 => (intro _; with_unfolding_all rfl))))
  (k_with "subscriptTail" => (k_here; (with_reducible show wpAny _ _ (subscriptTail _ _ (Value.ref _) (Value.int 0 _)) _ _ _); k_dflt (refine' item_first (Fr.tup ?F_z178 ?t_z178) ?_ ?hs_z178 ?hg_z178); (case F_z178 => assumption); (case t_z178 => assumption); (case hs_z178 => with_unfolding_all rfl); (case hg_z178 => (intro _; with_unfolding_all rfl))))
  (k_with "execs cons" => (k_here; (with_reducible show wpAny _ _ (execs (Stmt.If _ _ _ _ :: Stmt.For _ _ _ _ _ :: _) _) _ _ _); refine' halt ?_))
  have _hx : (PySem.Challenge.rw_nn0292_01 = PySem.Challenge.rw_nn0292_01) ∧ (Mine.hd.heap_39 = Mine.hd.heap_39) := by k_fill; exact ⟨rfl, rfl⟩
  refine' enter [] [(Str.ofString "code", .ref c)] hk₀ X₀ T₀ (by simp) ?k6 ?k7 ?k8 ?k9 ?kB ?_ ?c2 ?c3 ?c4 ?c5
  case k6 => k_is
  case k7 => k_is
  case k8 => (show dp < recursionLimit; omega)
  case k9 => exact BindsTo.of_eq rfl
  case c5 => decide
  case kB => exact locs rfl
  case c2 => exact rfl
  case c3 => exact rfl
  case c4 => exact rfl
  intro g L' h₁ tk₀ G F N X T
  try dsimp only
  k_fold
  replace G : ∀ b o, s.heap.get? b = some o → b ∉ [] → g.get? b = some o := G
  have hcg : g.IsList c vs.toArray := by
    obtain ⟨o, ho, r⟩ := hc
    exact ⟨o, G _ _ ho (by simp), r⟩
  have hrg : RowsAt (At g) vs rows := hr.mono fun a o _ e => G a o e (by simp)
  have hln := hrg.1
  clear hk₀ X₀ T₀ hc hr
  k_steps
  refine (?_ : wpAny _ _ _ _ _ _)
  rename Fr _ _ _ _ => F9
  rename News _ _ _ _ => N9
  rename Obj.IsDictOf (intKind _ _) _ _ => hi9
  obtain ⟨nx, Nx, hJ0⟩ := sf_start (rows := rows) F9 N9 hi9 (by omega) (by omega) (by omega) (by omega) rfl rfl rfl rfl
  refine' while_inv F9 Nx (SfI _ _ _ _ _ _ rows) hJ0 ?_
  clear hJ0 Nx N9 F9 hi9
  intro n m₁ nx hp tk hJ F' N'
  obtain ⟨fs, n1, oK, kvs, known, ps, n2, pe, rest, fl, J⟩ := hJ
  obtain ⟨mo, e5⟩ := form4 J.m1 J.m2 J.m3 J.m4
  obtain ⟨e1, hoff, hfa, hdi, hkn, hpe, hinv, hmeas, hroom, -, -, -, -⟩ := J
  subst e1
  subst e5
  have hfl := hfa.length
  have hkl := hkn.length
  have hpl := hpe.length
  have hkr := hinv.room hd
  show wpAny _ _ _ _ _ _
  k_fold
  rcases List.eq_nil_or_concat pe with e0 | ⟨pe', q, e0⟩
  · subst e0
    cases hpe
    have hd0 := hinv.done
    k_steps
    rename Fr _ _ _ _ => F9
    rename News _ _ _ _ => N9
    refine sorted_faults F9 N9 (News.isList N9 (.head _)) (hfa.mono fun _ _ _ e => .tail _ (.tail _ (.tail _ e))) (by omega) fun D out n' h' F' N' lt hlen => ?_
    have hgo : out = [] ↔ Good rows := by
      rw [← hd0]
      cases fs with
      | nil => simp at hlen; simp [hlen]
      | cons x r => cases out with
        | nil => simp at hlen
        | cons y q => simp
    k_steps
    all_goals (show Q _ _)
    all_goals (
      rename News _ _ _ _ => N8
      have hN := fresh_of G N8 (.head _) (by simp)
      exact h _ _ _ _ _ (back G (by assumption)) hN.1 hN.2 hgo)
  · rw [List.concat_eq_append] at e0
    subst e0
    obtain ⟨qs, qs', e2, hpe1, hpe2⟩ := hpe.split
    subst e2
    clear hpe
    cases hpe2 with
    | @cons p ad tad v sc _ _ e f r =>
    cases r
    obtain ⟨o, us, rfl, hmo, hsc⟩ := f
    have hpos : 0 < ((qs ++ [Value.ref p]).length : Int) := by simp
    have hql := hpe1.length
    rw [List.length_append, List.length_singleton] at hmeas
    have hre := hinv.pe (ad, sc) (by simp)
    have hw := hre.within hd
    have hw1 : 0 ≤ ad := hw.1
    have hw2 : ad < rows.length := hw.2
    have hsm : sc.length ≤ known.length := hinv.small (ad, sc) (by simp)
    have hus := hsc.length
    have hpop : ∀ x, x ∈ pe' ++ [(ad, sc)] ↔ x = (ad, sc) ∨ x ∈ pe' := fun x => by simp [or_comm]
    rcases hkn.look ad with ⟨hvn, hno⟩ | ⟨v0, sc0, hvs, hm0, o0, us0, rfl, hi0, hsc0⟩
    · have hbb : (valueAt kvs ad).isSome = false := by rw [hvn]; rfl
      obtain ⟨v, hv, hrow⟩ := hrg.at (i := ad.toNat) (by omega)
      have hgr : rows[ad.toNat]? = some rows[ad.toNat] := List.getElem?_eq_getElem (by omega)
      generalize rows[ad.toNat] = row at hrow hgr
      obtain ⟨ra, rt, rxs, hvr, hnm⟩ := hrow.named
      subst hvr
      have hti := isTup_of hnm
      have hkr1 := hinv.room1 hd hno hre
      cases hbe : behind row sc with
      | none =>
        k_steps
        rename News _ _ _ _ => N9
        rename Sub _ _ => hs1
        rename Off _ _ => ho1
        have htg := behind_none_targets hbe
        refine WhEnd.contE _ (by assumption) (newsRot4 N9) (sf_turn (rest := rest) (pend' := pe') (us := us) (ho1.new (lt3 ?_ ?_ ?_)) hs1.cons ((hfa.mono fun _ _ _ h => .tail _ (hs1 _ h)).snoc (.head _)) (by simp) (by assumption) hvn hkn hmo hsc (hpe1.mono (fun _ _ h => .tail _ (hs1 _ h)) fun _ _ h => h.mono fun _ _ h => .tail _ (hs1 _ h)) hinv hno hgr hkr1 (by simp [handed, htg, hbe]) (by rw [htg]; exact Nat.zero_le _) (fun e => absurd e (by simp)) (fun _ => .inr fun ok => ok.1 hbe) hmeas hroom rfl rfl rfl rfl)
        all_goals omega
      | some sc' =>
        k_steps
        unfold Halt
        rename News _ _ _ _ => N9
        rename Fr _ _ _ _ => F9
        rename IntsAre _ sc' => hib
        rename Sub _ _ => hs1
        rename Off _ _ => ho1
        rename (_, tupOf _) ∈ _ => hmb1
        have hfa1 := hfa.mono (S' := InL _) fun _ _ _ e => Sub.mem hs1 e
        refine sf_cut row sc F9 N9 ?cutA ?cutB
        case cutA =>
          k_steps
          all_goals (
            rename News _ _ _ _ => N8
            rename Fr _ _ _ _ => F8
            first
              | exact sf_cutF F8 N8 ho1 (by omega) (by omega) (by omega) hfa1 (by assumption) (by assumption) (by assumption) hus
              | exact sf_cutO F8 N8 ho1 hfa1 hbe (fun e => noScopes (by assumption) hus)
              | exact sf_cutO F8 N8 ho1 hfa1 hbe (fun e => absurd ((ends_falls (by assumption)).symm.trans e) (by simp))
              | exact sf_cutO F8 N8 ho1 hfa1 hbe (fun e => absurd ((ends_jumpB (by assumption)).symm.trans e) (by simp)))
        case cutB =>
          intro h' tk fs' n1' fl' rest2 F' N' off2 sub2 fa2 hlf hb1 hb2
          k_sweep
          have hmb2 := sub2 _ hmb1
          have hmo2 := sub2 _ (hs1 _ hmo)
          have sub1 := hs1.trans sub2
          clear hfa1 ho1 hs1 hmb1
          k_steps
          rename News _ _ _ _ => N3
          rename SrcTup _ _ _ _ => src3
          rename IntsAre _ (Row.targets _) => hits
          rename List Value => its
          rename Sub rest2 _ => sub3
          rename Off _ _ => off3
          have hmb3 := sub3 _ hmb2
          have hmo3 := sub3 _ hmo2
          have fa3 := fa2.mono (S' := InL _) fun _ _ _ e => Sub.mem sub3 e
          replace sub3 := sub1.trans sub3
          clear sub1 sub2 fa2 hmb2 hmo2 off2
          have htwo := hrow.two
          have hitl := hits.length
          refine' for_tuple (x := Str.ofString "target") (J := SfL _ _ _ fs' n1' _ _ _ _ _ pe' row sc _) ?zh ?zx ?zp ?zF N3 ?zJ ?zS ?turn2 ?done2
          case zh => rfl
          case zx => rfl
          case zp => rfl
          case zF => assumption
          case zJ => exact sfl_start off3 src3 sub3 hpe1
          case zS => exact sfl_src
          case turn2 =>
            intro k v m₁ nx h tk I2 oI2 hv2 hJ off2 F' N'
            k_sweep
            obtain ⟨ps, n2', rest4, e1, off4, sub4, src4, pa4, o', e5⟩ := hJ
            subst e1
            subst e5
            have q1 := neN (off2 _ (List.Mem.head _))
            have q2 := neN (off2 _ (List.Mem.tail _ (List.Mem.head _)))
            have q3 := neN (off2 _ (List.Mem.tail _ (List.Mem.tail _ (List.Mem.head _))))
            have off5 : Off [I2, _, _, _] rest4 := Off.more off4 fun p hp => off2 p (.tail _ (.tail _ (.tail _ hp)))
            obtain ⟨tv, tt, e6, hv3⟩ := ints_get hits hv2
            subst e6
            have hk : k < its.length := (List.getElem?_eq_some_iff.mp hv2).1
            have hpl4 := pa4.length
            have hps : ps.length ≤ 100 := by
              rw [hpl4, List.length_append, handed, List.length_map, List.length_take]
              omega
            show wpAny _ _ _ _ _ _
            k_fold
            k_steps
            · rename News _ _ _ _ => N9
              refine TurnEnd.intro _ (by assumption) (newsRot5b N9) (allNe (allNe (allNe (fun p hp => ?_) q3) q2) q1) ?_
              · rcases List.mem_append.mp hp with hp | hp
                · simp only [List.mem_cons, List.not_mem_nil, or_false] at hp
                  rcases hp with rfl | rfl <;> k_ne
                · exact off5.ne (.head _) p hp
              · refine sfl_next _ off4 ((Off.nil.new (lt3 ?_ ?_ ?_)).new (lt3 ?_ ?_ ?_)) sub4 src4 pa4 hv3 (.head _) (.tail _ (.head _)) ?_
                all_goals first | omega | (rw [nextSc_fork (by assumption)]; exact .nil)
            · rename News _ _ _ _ => N9
              refine TurnEnd.intro _ (by assumption) (newsRot5a N9) (allNe (allNe (allNe (fun p hp => ?_) q3) q2) q1) ?_
              · rcases List.mem_append.mp hp with hp | hp
                · simp only [List.mem_cons, List.not_mem_nil, or_false] at hp
                  subst hp
                  k_ne
                · exact off5.ne (.head _) p hp
              · refine sfl_next _ off4 (Off.nil.new (lt3 ?_ ?_ ?_)) sub4 src4 pa4 hv3 (.head _) (.tail _ (sub4 _ hmo3)) ?_
                all_goals first | omega | (rw [nextSc_no (by assumption)]; exact hsc)
          case done2 =>
            intro h tk m₁ nx F' N' hJ
            k_sweep
            obtain ⟨ps, n2', rest4, e1, off4, sub4, src4, pa4, o', e5⟩ := hJ
            subst e1
            subst e5
            have hpl4 := pa4.length
            have hps : ps.length ≤ 100 := by
              rw [hpl4, List.length_append, handed, List.length_map, List.length_take]
              omega
            have hmb4 := sub4 _ hmb3
            k_steps
            all_goals (
              rename News _ _ _ _ => N9
              first
                | (refine WhEnd.nextE _ (by assumption) (newsRot4 N9) (sf_turn (rest := rest) (off4.new (lt3 ?_ ?_ ?_)) (sub3.trans sub4).cons (fa3.mono fun _ _ _ h => .tail _ (sub4 _ h)) hlf (by assumption) hvn hkn hmo hsc ((pa4.mono (fun _ _ h => .tail _ h) fun _ _ h => h.mono fun _ _ h => .tail _ h).append (.cons (.head _) ⟨_, _, rfl, .tail _ hmb4, hib⟩ .nil)) hinv hno hgr hkr1 ?_ htwo hb1 hb2 hmeas hroom rfl rfl rfl rfl)
                   all_goals first | omega | (rw [hitl, List.take_length, if_pos (by assumption), hbe]; rfl))
                | (refine WhEnd.nextE _ (by assumption) N9 (sf_turn (rest := rest) off4 (sub3.trans sub4) (fa3.mono fun _ _ _ h => sub4 _ h) hlf (by assumption) hvn hkn hmo hsc pa4 hinv hno hgr hkr1 ?_ htwo hb1 hb2 hmeas hroom rfl rfl rfl rfl)
                   rw [hitl, List.take_length, if_neg (Bool.eq_false_iff.mp (by assumption)), List.append_nil]))
    · have hbb : (valueAt kvs ad).isSome = true := by rw [hvs]; rfl
      k_steps
      all_goals (show WhEnd _ _ _ _ _ _ _ _)
      · rename News _ _ _ _ => N9
        refine WhEnd.cont _ (by assumption) N9 (k := n - 1) ?_ ?_
        · omega
        · exact (sf_same hoff hfa hdi hkn hpe1 hinv hmeas hroom hm0 (by assumption) rfl rfl rfl rfl).2
      · rename News _ _ _ _ => N9
        refine WhEnd.cont _ (by assumption) (newsRot4 N9) (k := n - 1) ?_ ?_
        · omega
        · exact (sf_differ hoff hfa hdi hkn hpe1 hinv hmeas hroom hm0 (by assumption) (by omega) (by omega) (by omega) rfl rfl rfl rfl).2
end
open PySem PySem.W PySem.Calls PyProof.Rows
set_option Elab.async false
set_option maxRecDepth 100000
set_option maxHeartbeats 1000000
section
def Apart (r : Addr) (l : List (Addr × Obj)) : Prop := ∀ p ∈ l, p.1 ≠ r
section
variable {prog : Program} {w : World} {A : Around} {E : Value → Shared → Prop} {s : Shared}
theorem eq_empty {a b : Addr} {xs : Array Value} {n k : Nat} {Q : Value → Shared → Prop} (ha : s.heap.get? a = some (listOf xs n)) (hb : s.heap.get? b = some (listOf #[] k)) (hu : A.units < cLine) (h : Q (.bool (decide (xs.size = 0))) s) :
    wpAny (model prog w) A (compareOp .Eq (.ref a) (.ref b)) Q E s := by
  refine cmp_ofEq (wpAny_richCompare_same_room (op := .Eq) (T := "list") ⟨_, ha, rfl⟩ ⟨_, hb, rfl⟩ PySem.F.slot_list_eq ?_ hu)
  by_cases h0 : xs.size = 0
  · refine call_meets PySem.F.slot_list_eq ⟨_, ha, rfl⟩ PySem.F.entry_list_eq (PySem.F.args_list_eq_2 _ _) (SeqAt.list_eqAt a b xs #[] n k none none #[] #[] (by simp [h0]) fun _ => true) ⟨ha, hb, fun j h1 => by omega, ?_⟩
    rw [h0]
    rw [decide_eq_true h0] at h
    exact ⟨(fun e => nomatch e), h⟩
  · refine call_meets PySem.F.slot_list_eq ⟨_, ha, rfl⟩ PySem.F.entry_list_eq (PySem.F.args_list_eq_2 _ _) (SeqAt.list_eq_lengthsAt a b xs #[] n k none none #[] #[] (by simp; exact fun e => h0 (by rw [e]; rfl))) ⟨ha, hb, ?_⟩
    rw [decide_eq_false h0] at h
    exact ⟨(fun e => nomatch e), h⟩
theorem ne_empty {a b : Addr} {xs : Array Value} {n k : Nat} {Q : Value → Shared → Prop} (ha : s.heap.get? a = some (listOf xs n)) (hb : s.heap.get? b = some (listOf #[] k)) (hu : A.units < cLine) (h : Q (.bool (decide (xs.size ≠ 0))) s) :
    wpAny (model prog w) A (compareOp .NotEq (.ref a) (.ref b)) Q E s := by
  refine cmp_ofNotEq (wpAny_richCompare_same_room (op := .NotEq) (T := "list") ⟨_, ha, rfl⟩ ⟨_, hb, rfl⟩ PySem.F.slot_list_ne ?_ hu)
  by_cases h0 : xs.size = 0
  · refine call_meets PySem.F.slot_list_ne ⟨_, ha, rfl⟩ PySem.F.entry_list_ne (PySem.F.args_list_ne_2 _ _) (SeqAt.list_neAt a b xs #[] n k none none #[] #[] (by simp [h0]) fun _ => true) ⟨ha, hb, fun j h1 => by omega, ?_⟩
    rw [h0]
    have e : decide (xs.size ≠ 0) = false := by simp [h0]
    rw [e] at h
    exact ⟨(fun e => nomatch e), h⟩
  · refine call_meets PySem.F.slot_list_ne ⟨_, ha, rfl⟩ PySem.F.entry_list_ne (PySem.F.args_list_ne_2 _ _) (SeqAt.list_ne_lengthsAt a b xs #[] n k none none #[] #[] (by simp; exact fun e => h0 (by rw [e]; rfl))) ⟨ha, hb, ?_⟩
    rw [decide_eq_true h0] at h
    exact ⟨(fun e => nomatch e), h⟩
theorem pop_first {h₀ : Heap} {m : Str → Option Value} {L D : Addr} {news news' : List (Addr × Obj)} {p : List Value} {y : Value} {n : Nat} {u : Tok} {Q : Value → Shared → Prop} (F : Fr h₀ L s.heap m) (N : News h₀ L s.heap news) (U : Upd D (listOf (List.toArray (y :: p)) n) (listOf (List.toArray p) (n + 1)) news news')
    (hz : p.length ≤ 100000) (h : ∀ h', Fr h₀ L h' m → News h₀ L h' news' → Q y { s with heap := h' }) : wpAny (model prog w) A (call (.builtin "list.pop") [.ref D, .int 0 u]) Q E s :=
  kl_popAt (k := 0) (p := []) (q := p) F N (by rfl) (by unfold seqIndex?; simp) rfl U (by rw [sizeLine_eq]; simp; omega) h
theorem named_use {mean : ExcName → Option Value} {mg mb : Str → Option Value} {h₀ : Heap} {L : Addr} {m : Str → Option Value} {news : List (Addr × Obj)} {v : Value} {row : Row} {S : Addr → Obj → Prop} {Q : Value → Shared → Prop}
    (hh : A.handled = none) (hdp : A.depth + 5 < recursionLimit) (F : Fr h₀ L s.heap m) (X₀ : (hd.heap_39 w.params).In h₀) (T₀ : Top hd.view_39 (looseW hd.view_39 []) mean mg mb h₀) (N : News h₀ L s.heap news)
    (hS : ∀ a o, S a o → s.heap.get? a = some o) (hr : RowAt S v row)
    (h : ∀ r vs n h' tk₁, Fr h₀ L h' m → News h₀ L h' ((r, listOf (List.toArray vs) n) :: news) → Apart r news → IntsAre vs row.targets → Q (.ref r) { s with heap := h', toks := tk₁ }) :
    wpAny (model PySem.Challenge.rw_nn0292_01.row.prog w) A (call (.ref 75) [v]) Q E s := by
  obtain ⟨hd, d, fr, gd, un⟩ := A
  obtain rfl : hd = none := hh
  refine wpAny_mono (named_core hdp F.keep X₀ T₀ (hr.mono fun a o _ e => hS a o e) fun r vs n h' tk₁ R hg hi hn => ?_) (fun _ _ x => x) fun _ _ x => x.elim
  have F' := R.fr F fun _ q => nomatch q
  have N' := R.news N fun _ _ q => nomatch q
  refine h r vs n h' tk₁ F' (fun p hp => ?_) (fun p hp e => ?_) hi
  · rcases List.mem_cons.mp hp with rfl | hp
    · refine ⟨hg, fun e => ?_, ?_⟩
      · obtain ⟨oL, _, _, hL, _⟩ := F.ns
        have e' : r = L := e
        rw [e', hL] at hn
        cases hn
      · cases q : h₀.get? r with
        | none => rfl
        | some o => rw [F.keep _ _ q] at hn; cases hn
    · exact N' p hp
  · have := (N p hp).1
    rw [e, hn] at this
    cases this
end
/-- the list of the open scopes -/
def LsAt (S : Addr → Obj → Prop) (v : Value) (sc : List Int) : Prop := ∃ a us n, v = .ref a ∧ S a (listOf (List.toArray us) n) ∧ IntsAre us sc
theorem LsAt.mono {S S' : Addr → Obj → Prop} {v : Value} {sc : List Int} (h : LsAt S v sc) (k : ∀ a o, S a o → S' a o) : LsAt S' v sc := let ⟨a, us, n, e, x, y⟩ := h; ⟨a, us, n, e, k _ _ x, y⟩
structure LsJ (prog : Program) (w : World) (c aH aT : Addr) (rows : List Row) (oH : Obj) (kvs : List (Int × Value)) (known : Kn) (ps : List Value) (n2 : Nat) (pe : Kn) (rest : List (Addr × Obj)) (n : Nat) (m : Str → Option Value) (nx : List (Addr × Obj)) : Prop where
  eq : nx = (aH, oH) :: (aT, listOf (List.toArray ps) n2) :: rest
  off : Off [aH, aT] rest
  di : oH.IsDictOf (intKind prog w) kvs
  ka : KnAre (LsAt (InL rest)) kvs known
  pa : PeAre (InL rest) (LsAt (InL rest)) ps pe
  inv : Inv rows known pe false
  meas : n = 4 * (rows.length - known.length) + pe.length
  room : n ≤ 4 * rows.length + 1
  m1 : m (Str.ofString "rows") = some (.ref c)
  m2 : m (Str.ofString "held") = some (.ref aH)
  m3 : m (Str.ofString "todo") = some (.ref aT)
def LsI (prog : Program) (w : World) (c aH aT : Addr) (rows : List Row) (n : Nat) (m : Str → Option Value) (nx : List (Addr × Obj)) : Prop :=
  ∃ oH kvs known ps n2 pe rest, LsJ prog w c aH aT rows oH kvs known ps n2 pe rest n m nx
theorem lt2 {D a b : Nat} (h1 : a < D) (h2 : b < D) : ∀ x ∈ [a, b], @LT.lt Nat _ x D := fun x hx => by
  simp only [List.mem_cons, List.not_mem_nil, or_false] at hx
  rcases hx with rfl | rfl <;> assumption
theorem ls_start {prog : Program} {w : World} {h₀ h : Heap} {L c aH aT p0 t0 : Addr} {m : Str → Option Value} {oH : Obj} {t : Tok} {rows : List Row} (_F : Fr h₀ L h m)
    (N : News h₀ L h [(aT, listOf #[.ref p0] 0), (p0, tupOf [.int 0 t, .ref t0]), (t0, listOf #[] 0), (aH, oH)]) (di : oH.IsDictOf (intKind prog w) []) (l2 : @LT.lt Nat _ aH t0) (l3 : @LT.lt Nat _ t0 p0) (l4 : @LT.lt Nat _ p0 aT)
    (m1 : m (Str.ofString "rows") = some (.ref c)) (m2 : m (Str.ofString "held") = some (.ref aH)) (m3 : m (Str.ofString "todo") = some (.ref aT)) :
    ∃ nx, News h₀ L h nx ∧ LsI prog w c aH aT rows (4 * rows.length + 1) m nx := by
  refine ⟨(aH, oH) :: (aT, listOf (List.toArray [.ref p0]) 0) :: [(p0, tupOf [.int 0 t, .ref t0]), (t0, listOf (List.toArray []) 0)], fun p hp => N p ?_, ?_⟩
  · simp only [List.mem_cons] at hp ⊢
    rcases hp with h | h | h | h | h <;> first | exact absurd h List.not_mem_nil | simp [h]
  · refine ⟨oH, [], [], [.ref p0], 0, [(0, [])], _, rfl, ?_, di, .nil, .cons (.head _) ⟨t0, [], 0, rfl, .tail _ (.head _), .nil⟩ .nil, .start rows, by simp, by simp, m1, m2, m3⟩
    intro p hp q
    simp only [List.mem_cons, List.not_mem_nil, or_false] at hp q
    rcases hp with rfl | rfl <;> rcases q with q | q <;> (have q' : @Eq Nat _ _ := q; dsimp only at q'; omega)
end
open PySem PySem.W PySem.Calls PyProof.Rows
set_option Elab.async false
set_option maxRecDepth 100000
set_option maxHeartbeats 1000000
section
theorem allLt_ne {d : Addr} : ∀ {l : List (Addr × Obj)}, AllLt d l → ∀ p ∈ l, p.1 ≠ d
  | [], _, _, hp => nomatch hp
  | _ :: _, h, p, hp => by
    rcases List.mem_cons.mp hp with rfl | hp
    · exact Nat.ne_of_lt h.1
    · exact allLt_ne h.2 p hp
theorem newsDrop1 {h₀ h : Heap} {L : Addr} {a : Addr × Obj} {r : List (Addr × Obj)} (N : News h₀ L h (a :: r)) : News h₀ L h r := fun p hp => N p (.tail _ hp)
theorem newsDrop4 {h₀ h : Heap} {L : Addr} {a b c d : Addr × Obj} {r : List (Addr × Obj)} (N : News h₀ L h (a :: b :: c :: d :: r)) : News h₀ L h r := fun p hp => N p (.tail _ (.tail _ (.tail _ (.tail _ hp))))
theorem bad_good {rows : List Row} {ad : Int} {sc : List Int} {row : Row} (hr : Reach rows ad sc) (hg : rows[ad.toNat]? = some row) (h : ¬ okRow row sc) : ¬ Good rows := fun g => h (g.2 ad sc row hr hg)
theorem false_good {rows : List Row} (h : ¬ Good rows) : false = true ↔ Good rows := ⟨(fun e => nomatch e), fun g => absurd g h⟩

theorem ends_ng {row : Row} {us : List Value} {sc : List Int} (he : row.ends = true) (h : us.toArray.size ≠ 0) (hu : us.length = sc.length) : ¬ okRow row sc := fun ok => by
  have := ok.2 he
  rw [List.size_toArray, hu, this] at h
  exact h rfl
theorem ends_ok {row : Row} {us : List Value} {sc : List Int} (hb : behind row sc ≠ none) (h : ¬ us.toArray.size ≠ 0) (hu : us.length = sc.length) : okRow row sc := ⟨hb, fun _ => by
  rw [List.size_toArray, hu] at h
  exact List.eq_nil_of_length_eq_zero (by omega)⟩
theorem falls_pe {row : Row} {sc sc2 : List Int} {ad : Int} (hb : behind row sc = some sc2) (hf : row.falls = true) : (if row.falls = true then (behind row sc).toList.map (fun s => (ad + 1, s)) else []) = [(ad + 1, sc2)] := by
  rw [if_pos hf, hb]; rfl
theorem nofall_pe {row : Row} {sc : List Int} {ad : Int} (hf : row.falls = false) : (if row.falls = true then (behind row sc).toList.map (fun s => (ad + 1, s)) else []) = [] := by
  rw [if_neg (by rw [hf]; simp)]
theorem leave_nil (c : Int) : ¬ okRow (.leave c) [] := fun ok => ok.1 (by simp [behind])
theorem leave_ne {c c' : Int} {sc : List Int} (h : ¬ c' = c) : ¬ okRow (.leave c) (sc ++ [c']) := fun ok => ok.1 (by simp [behind, h])
theorem leave_eq {c c' : Int} {sc : List Int} (h : c' = c) : behind (.leave c) (sc ++ [c']) = some sc := by simp [behind, h]
section
variable {prog : Program} {w : World} {c aH aT : Addr} {rows : List Row} {n2 n2' : Nat} {oH oH' : Obj} {kvs : List (Int × Value)} {known : Kn} {qs : List Value} {pe' : Kn} {rest rest' : List (Addr × Obj)} {n : Nat} {m : Str → Option Value} {ad : Int} {sc sc0 : List Int}
  {D o : Addr} {us : List Value} {no : Nat} {t u : Tok} {row : Row}
theorem ls_same (off : Off [aH, aT] rest) (di : oH.IsDictOf (intKind prog w) kvs) (ka : KnAre (LsAt (InL rest)) kvs known) (pa : PeAre (InL rest) (LsAt (InL rest)) qs pe') (inv : Inv rows known ((ad, sc) :: pe') false)
    (meas : n = 4 * (rows.length - known.length) + (pe'.length + 1)) (room : n ≤ 4 * rows.length + 1) (hm : (ad, sc0) ∈ known) (he : sc0 = sc)
    (m1 : m (Str.ofString "rows") = some (.ref c)) (m2 : m (Str.ofString "held") = some (.ref aH)) (m3 : m (Str.ofString "todo") = some (.ref aT)) :
    ∃ k, k < n ∧ LsI prog w c aH aT rows k m ((aH, oH) :: (aT, listOf (List.toArray qs) n2') :: rest) := by
  subst he
  exact ⟨n - 1, by omega, _, _, _, _, _, _, _, ⟨rfl, off, di, ka, pa, inv.same (fun x => List.mem_cons) hm, by omega, by omega, m1, m2, m3⟩⟩
theorem ls_differ (inv : Inv rows known ((ad, sc) :: pe') false) (hm : (ad, sc0) ∈ known) (hne : ¬ sc0 = sc) : ¬ Good rows := (inv.differ (p := pe') (fun x => List.mem_cons) hm hne).1
theorem ls_turn {ps : List Value} {pend' : Kn} (off : Off [aH, aT] rest') (sub : Sub rest rest') (di : oH'.IsDictOf (intKind prog w) (stored kvs ad (.ref o))) (hvn : valueAt kvs ad = none)
    (ka : KnAre (LsAt (InL rest)) kvs known) (ho : (o, listOf (List.toArray us) no) ∈ rest) (hsc : IntsAre us sc) (pa : PeAre (InL rest') (LsAt (InL rest')) ps pend') (inv : Inv rows known ((ad, sc) :: pe') false) (hno : ∀ q ∈ known, q.1 ≠ ad) (hg : rows[ad.toNat]? = some row)
    (hkr : known.length + 1 ≤ rows.length) (hp' : pend' = pe' ++ handed row sc row.targets ++ (if row.falls = true then (behind row sc).toList.map (fun s => (ad + 1, s)) else []))
    (htw : row.targets.length ≤ 2) (ok : okRow row sc)
    (meas : n = 4 * (rows.length - known.length) + (pe'.length + 1)) (room : n ≤ 4 * rows.length + 1)
    (m1 : m (Str.ofString "rows") = some (.ref c)) (m2 : m (Str.ofString "held") = some (.ref aH)) (m3 : m (Str.ofString "todo") = some (.ref aT)) :
    ∃ k, k < n ∧ LsI prog w c aH aT rows k m ((aH, oH') :: (aT, listOf (List.toArray ps) n2') :: rest') := by
  have hin : Inv rows (known ++ [(ad, sc)]) pend' false := by
    refine inv.turn (p := pe') (fun x => List.mem_cons) hno hg (fun x => ?_) (fun _ => ⟨rfl, ok⟩) fun e => nomatch e
    rw [hp']
    simp only [List.mem_append, handed, List.mem_map, or_assoc]
    refine or_congr Iff.rfl (or_congr ⟨fun ⟨t, ht, e⟩ => ⟨t, ht, e.symm⟩, fun ⟨t, ht, e⟩ => ⟨t, ht, e.symm⟩⟩ ?_)
    by_cases hf : row.falls = true
    · rw [if_pos hf]
      simp [hf, eq_comm]
    · rw [if_neg hf]
      simp [hf]
  have hlen : pend'.length ≤ pe'.length + 3 := by
    rw [hp', List.length_append, List.length_append]
    have h1 : (handed row sc row.targets).length ≤ 2 := by simpa [handed] using htw
    have h2 : (if row.falls = true then (behind row sc).toList.map (fun s => (ad + 1, s)) else []).length ≤ 1 := by
      split
      · cases behind row sc <;> simp
      · simp
    omega
  have hkl : (known ++ [(ad, sc)]).length = known.length + 1 := by simp
  refine ⟨4 * (rows.length - (known ++ [(ad, sc)]).length) + pend'.length, by rw [hkl]; omega, oH', kvs ++ [(ad, .ref o)], known ++ [(ad, sc)], ps, n2', pend', rest', ⟨rfl, off, ?_, ?_, pa, hin, rfl, by rw [hkl]; omega, m1, m2, m3⟩⟩
  · rw [← stored_absent hvn]; exact di
  · exact (ka.mono fun _ _ h => h.mono fun _ _ h => sub _ h).append (.cons ⟨o, us, no, rfl, sub _ ho, hsc⟩ .nil)

/-- the targets gone through -/
def LsL (aH aT : Addr) (oH' : Obj) (r : Addr) (its : List Value) (h₀ : Heap) (rest3 : List (Addr × Obj)) (pe' : Kn) (row : Row) (sc : List Int) (m₀ : Str → Option Value) (k : Nat) (m : Str → Option Value) (nx : List (Addr × Obj)) : Prop :=
  ∃ ps n2 rest4, nx = (aH, oH') :: (aT, listOf (List.toArray ps) n2) :: rest4 ∧ Off [aH, aT] rest4 ∧ Sub rest3 rest4 ∧ SrcLst h₀ r its rest4 ∧
    PeAre (InL rest4) (LsAt (InL rest4)) ps (pe' ++ handed row sc (row.targets.take k)) ∧ Stays (Str.ofString "spot") m₀ m
theorem srcLst_mono {h₀ : Heap} {r : Addr} {its : List Value} {l l' : List (Addr × Obj)} (h : SrcLst h₀ r its l) (s : ∀ p ∈ l, p ∈ l') : SrcLst h₀ r its l' := let ⟨k, x⟩ := h; ⟨k, x.imp id fun y => s _ y⟩
theorem lsl_start {h₀ : Heap} {r : Addr} {its : List Value} {rest3 : List (Addr × Obj)} (_g : rows[ad.toNat]? = some row) (_s : IntsAre us sc) (off : Off [aH, aT] rest3) (src : SrcLst h₀ r its rest3) (sub : Sub rest rest3) (pa : PeAre (InL rest) (LsAt (InL rest)) qs pe') :
    LsL aH aT oH' r its h₀ rest3 pe' row sc m 0 m ((aH, oH') :: (aT, listOf (List.toArray qs) n2') :: rest3) :=
  ⟨qs, n2', rest3, rfl, off, .refl _, src, by simpa [handed] using pa.mono (fun _ _ h => sub _ h) fun _ _ h => h.mono fun _ _ h => sub _ h, .start _ _⟩
theorem lsl_src {h₀ : Heap} {r : Addr} {its : List Value} {rest3 : List (Addr × Obj)} {m₀ : Str → Option Value} (k : Nat) (m : Str → Option Value) (nx : List (Addr × Obj)) (h : LsL aH aT oH' r its h₀ rest3 pe' row sc m₀ k m nx) : SrcLst h₀ r its nx := by
  obtain ⟨ps, n2, rest4, rfl, _, _, hs, _⟩ := h
  exact srcLst_mono hs fun p hp => .tail _ (.tail _ hp)
theorem lsl_next {h₀ : Heap} {r : Addr} {its : List Value} {rest3 rest4 : List (Addr × Obj)} {m₀ : Str → Option Value} {o' v : Option Value} {ps : List Value} {k : Nat} {tv : Int} {o2 : Addr} {us2 : List Value} {no2 : Nat} (ex : List (Addr × Obj)) (off : Off [aH, aT] rest4) (hex : Off [aH, aT] ex) (sub : Sub rest3 rest4) (src : SrcLst h₀ r its rest4)
    (pa : PeAre (InL rest4) (LsAt (InL rest4)) ps (pe' ++ handed row sc (row.targets.take k))) (hv : row.targets[k]? = some tv) (hD : (D, tupOf [.int tv t, .ref o2]) ∈ ex) (ho : (o2, listOf (List.toArray us2) no2) ∈ ex ++ rest4) (hsc : IntsAre us2 (nextSc row sc)) :
    LsL aH aT oH' r its h₀ rest3 pe' row sc m₀ (k + 1) (fun y => if y = Str.ofString "spot" then v else (fun y => if y = Str.ofString "spot" then o' else m₀ y) y) ((aH, oH') :: (aT, listOf (List.toArray (ps ++ [.ref D])) n2') :: (ex ++ rest4)) := by
  refine ⟨_, _, ex ++ rest4, rfl, fun p hp => (List.mem_append.mp hp).elim (hex p) (off p), fun p hp => List.mem_append_right _ (sub p hp), srcLst_mono src fun p hp => List.mem_append_right _ hp, ?_, .turn⟩
  rw [handed_take hv, ← List.append_assoc]
  exact (pa.mono (fun _ _ h => List.mem_append_right _ h) fun _ _ h => h.mono fun _ _ h => List.mem_append_right _ h).append (.cons (List.mem_append_left _ hD) ⟨_, _, _, rfl, ho, hsc⟩ .nil)
end
theorem newsRot3b {h₀ h : Heap} {L : Addr} {a b c d e : Addr × Obj} {r : List (Addr × Obj)} (N : News h₀ L h (a :: b :: c :: d :: e :: r)) : News h₀ L h (c :: d :: e :: ([a, b] ++ r)) := fun p hp => N p <| by
  simp only [List.mem_cons, List.cons_append, List.nil_append] at hp ⊢; rcases hp with h | h | h | h | h | h <;> simp [h]
theorem newsRot3a {h₀ h : Heap} {L : Addr} {a c d e : Addr × Obj} {r : List (Addr × Obj)} (N : News h₀ L h (a :: c :: d :: e :: r)) : News h₀ L h (c :: d :: e :: ([a] ++ r)) := fun p hp => N p <| by
  simp only [List.mem_cons, List.cons_append, List.nil_append] at hp ⊢; rcases hp with h | h | h | h | h <;> simp [h]
end
open PySem PySem.W PySem.Calls PyProof.Rows
set_option Elab.async false
set_option maxRecDepth 100000
set_option maxHeartbeats 1000000
section
theorem falls_of {row : Row} (he : row.ends = false) (h : (row.name != Str.ofString "jump") = true) : row.falls = true := by
  cases row <;> first | rfl | (simp [Row.ends] at he; done) | (exfalso; revert h; simp only [Row.name]; decide)
theorem nofalls_of {row : Row} (h : (row.name != Str.ofString "jump") = false) : row.falls = false := by
  cases row <;> first | rfl | (exfalso; revert h; simp only [Row.name]; decide)
/-- before the targets: the scopes behind stand in a list of their own -/
def LsCut (h₀ : Heap) (L : Addr) (m₀ : Str → Option Value) (aH aT : Addr) (oH' : Obj) (qs : List Value) (n2' : Nat) (rest : List (Addr × Obj)) (row : Row) (sc : List Int) (s₁ s₂ : Shared) : Prop :=
  ∃ h' tk B rest3 us2 nb sc', s₂ = { s₁ with heap := h', toks := tk } ∧ Fr h₀ L h' (fun y => if y = Str.ofString "behind" then some (.ref B) else m₀ y) ∧ News h₀ L h' ((aH, oH') :: (aT, listOf (List.toArray qs) n2') :: rest3) ∧ Off [aH, aT] rest3 ∧ Sub rest rest3 ∧ (B, listOf (List.toArray us2) nb) ∈ rest3 ∧ IntsAre us2 sc' ∧ behind row sc = some sc' ∧ row.ends = false
theorem LsCut.intro {h₀ h' : Heap} {L aH aT B : Addr} {m₀ : Str → Option Value} {oH' : Obj} {qs us2 : List Value} {n2' nb tk : Nat} {rest news : List (Addr × Obj)} {row : Row} {sc sc' : List Int} {s₁ : Shared} (F : Fr h₀ L h' (fun y => if y = Str.ofString "behind" then some (.ref B) else m₀ y)) (N : News h₀ L h' news)
    (h1 : (B, listOf (List.toArray us2) nb) ∈ news) (h2 : (aH, oH') ∈ news) (h3 : (aT, listOf (List.toArray qs) n2') ∈ news) (h4 : ∀ p ∈ rest, p ∈ news) (off : Off [aH, aT] rest) (l1 : @LT.lt Nat _ aH B) (l2 : @LT.lt Nat _ aT B) (hi : IntsAre us2 sc') (hb : behind row sc = some sc') (he : row.ends = false) :
    LsCut h₀ L m₀ aH aT oH' qs n2' rest row sc s₁ { s₁ with heap := h', toks := tk } := by
  refine ⟨_, _, B, (B, listOf (List.toArray us2) nb) :: rest, us2, nb, sc', rfl, F, fun p hp => N p ?_, off.new (lt2 l1 l2), fun p hp => .tail _ hp, .head _, hi, hb, he⟩
  rcases List.mem_cons.mp hp with rfl | hp
  · exact h2
  · rcases List.mem_cons.mp hp with rfl | hp
    · exact h3
    · rcases List.mem_cons.mp hp with rfl | hp
      · exact h1
      · exact h4 p hp
theorem ls_cut {prog : Program} {w : World} {A : Around} {E : Value → Shared → Prop} {env : Env} {Q : Flow → Shared → Prop} {s : Shared} {a b c d : Stmt} {ys : List Stmt} {h₀ : Heap} {L aH aT E0 : Addr} {m₀ : Str → Option Value} {oH' oE : Obj} {qs : List Value} {n2' : Nat} {rest : List (Addr × Obj)} (row : Row) (sc : List Int)
    (_F : Fr h₀ L s.heap m₀) (_N : News h₀ L s.heap ((E0, oE) :: (aH, oH') :: (aT, listOf (List.toArray qs) n2') :: rest))
    (h1 : wpAny (model prog w) A (execs [a, b, c, d] env) (CutQ (LsCut h₀ L m₀ aH aT oH' qs n2' rest row sc s) Q) E s)
    (h2 : ∀ h' tk B rest3 us2 nb sc', Fr h₀ L h' (fun y => if y = Str.ofString "behind" then some (.ref B) else m₀ y) → News h₀ L h' ((aH, oH') :: (aT, listOf (List.toArray qs) n2') :: rest3) → Off [aH, aT] rest3 → Sub rest rest3 → (B, listOf (List.toArray us2) nb) ∈ rest3 → IntsAre us2 sc' → behind row sc = some sc' → row.ends = false →
      wpAny (model prog w) A (execs ys env) Q E { s with heap := h', toks := tk }) : wpAny (model prog w) A (execs (a :: b :: c :: d :: ys) env) Q E s :=
  execs_cut4 h1 fun s' ⟨h', tk, B, rest3, us2, nb, sc', e, F, N, x1, x2, x3, x4, x5, x6⟩ => by subst e; exact h2 h' tk B rest3 us2 nb sc' F N x1 x2 x3 x4 x5 x6
theorem not_two {a b r : Addr} (h1 : a ≠ r) (h2 : b ≠ r) : r ∉ [a, b] := fun h => by
  simp only [List.mem_cons, List.not_mem_nil, or_false] at h
  rcases h with h | h
  · exact h1 h.symm
  · exact h2 h.symm
theorem off_src {h₀ h : Heap} {L aH aT r : Addr} {o₁ o₂ o₃ : Obj} {rest3 : List (Addr × Obj)} (N : News h₀ L h ((r, o₃) :: (aH, o₁) :: (aT, o₂) :: rest3)) (hrn : Apart r ((aH, o₁) :: (aT, o₂) :: rest3)) (off3 : Off [aH, aT] rest3) :
    News h₀ L h ((aH, o₁) :: (aT, o₂) :: (r, o₃) :: rest3) ∧ Off [aH, aT] ((r, o₃) :: rest3) :=
  ⟨newsRot3 N, off3.cons (not_two (hrn _ (.head _)) (hrn _ (.tail _ (.head _))))⟩
theorem okRow_of {row : Row} {sc sc' : List Int} (hb : behind row sc = some sc') (he : row.ends = false) : okRow row sc := ⟨by rw [hb]; simp, fun e => by rw [he] at e; cases e⟩
end
open PySem PySem.W PySem.Calls PyProof.Rows
set_option Elab.async false
set_option maxRecDepth 100000
set_option maxHeartbeats 4000000
section
local macro_rules | `(tactic| k_all) => `(tactic| first | (refine Off.ne (by assumption) ?_; simp; done) | exact allLt_ne (by assumption))
local macro_rules | `(tactic| k_mem) => `(tactic| first | assumption | (apply Sub.mem; assumption; k_mem))
theorem ls_core {w : World} {mean : ExcName → Option Value} {mg mb : Str → Option Value} {dp un : Nat} {fr : Option (List Env)} {gd : Option (List Code)} {s : Shared} {h₀ : Heap}
    {c : Addr} {vs : List Value} {rows : List Row} {Q : Value → Shared → Prop}
    (hdp : dp + 10 < recursionLimit) (hun : un ≤ 4000)
    (hk₀ : ∀ b o, h₀.get? b = some o → s.heap.get? b = some o) (X₀ : (hd.heap_39 w.params).In h₀) (T₀ : Top hd.view_39 (looseW hd.view_39 []) mean mg mb h₀)
    (hc : s.heap.IsList c vs.toArray) (hr : RowsAt (At s.heap) vs rows) (hl : rows.length ≤ 12) (hd : due rows = [])
    (h : ∀ b h' tk₁, Ret s [] { s with heap := h', toks := tk₁ } → (b = true ↔ Good rows) → Q (.bool b) { s with heap := h', toks := tk₁ }) :
    wpAny (model PySem.Challenge.rw_nn0292_01.row.prog w) (Ar dp un fr gd) (call (.ref 82) [.ref c]) Q (fun _ _ => False) s := by
  w_top off
  k_with_none
  (k_with "exec While Compare cons nil" => (k_here; with_unfolding_all refine' halt ?_))
  (k_with "exec For Name Call cons nil" => (k_here; (with_unfolding_all refine' for_exec ?_ ?hs_z181); (case hs_z181 => (intro _; with_unfolding_all rfl))))
  (k_with "exec For Name Call cons nil" => (k_here; (with_unfolding_all refine' for_exec ?_ ?hs_z182); (case hs_z182 => (intro _; with_unfolding_all rfl))))
  (k_with "exec For Name Call cons nil" => (k_here; (with_unfolding_all refine' for_exec ?_ ?hs_z183); (case hs_z183 => (intro _; with_unfolding_all rfl))))
  (k_with "exec For Name Call cons nil" => (k_here; (with_unfolding_all refine' for_exec ?_ ?hs_z184); (case hs_z184 => (intro _; with_unfolding_all rfl))))
  (k_with "exec For Name Call cons nil" => (k_here; (with_unfolding_all refine' for_exec ?_ ?hs_z185); (case hs_z185 => (intro _; with_unfolding_all rfl))))
  (k_with "exec For Name Call cons nil" => (k_here; (with_unfolding_all refine' for_exec ?_ ?hs_z186); (case hs_z186 => (intro _; with_unfolding_all rfl))))
  (k_with "call builtin:list.append" => (k_here; (with_reducible show wpAny _ _ (call (Value.builtin _) [Value.ref _, _]) _ _ _); k_dflt (refine' append_K ?k1_z187 ?k2_z187 ?k3_z187 ?_ ?z_z187; (case k1_z187 => k_asm); (case k2_z187 => k_asm); (case k3_z187 => k_upd); (case z_z187 => (rw [PySem.sizeLine_eq]; simp only [List.size_toArray, List.length_append, List.length_singleton]; omega)); k_whole); intro h'_z187 F'_z187 N'_z187; (try simp only [List.push_toArray] at N'_z187); (try k_sweep)))
  (k_with "call builtin:list.append" => (k_here; (with_reducible show wpAny _ _ (call (Value.builtin _) [Value.ref _, _]) _ _ _); k_dflt (refine' append_K ?k1_z188 ?k2_z188 ?k3_z188 ?_ ?z_z188; (case k1_z188 => k_asm); (case k2_z188 => k_asm); (case k3_z188 => k_upd); (case z_z188 => (rw [PySem.sizeLine_eq]; simp only [List.size_toArray, List.length_append, List.length_singleton]; omega)); k_whole); intro h'_z188 F'_z188 N'_z188; (try simp only [List.push_toArray] at N'_z188); (try k_sweep)))
  (k_with "call builtin:list.append" => (k_here; (with_reducible show wpAny _ _ (call (Value.builtin _) [Value.ref _, _]) _ _ _); k_dflt (refine' append_K ?k1_z189 ?k2_z189 ?k3_z189 ?_ ?z_z189; (case k1_z189 => k_asm); (case k2_z189 => k_asm); (case k3_z189 => k_upd); (case z_z189 => (rw [PySem.sizeLine_eq]; simp only [List.size_toArray, List.length_append, List.length_singleton]; omega)); k_whole); intro h'_z189 F'_z189 N'_z189; (try simp only [List.push_toArray] at N'_z189); (try k_sweep)))
  (k_with "call builtin:list.append" => (k_here; (with_reducible show wpAny _ _ (call (Value.builtin _) [Value.ref _, _]) _ _ _); k_dflt (refine' append_K ?k1_z190 ?k2_z190 ?k3_z190 ?_ ?z_z190; (case k1_z190 => k_asm); (case k2_z190 => k_asm); (case k3_z190 => k_upd); (case z_z190 => (rw [PySem.sizeLine_eq]; simp only [List.size_toArray, List.length_append, List.length_singleton]; omega)); k_whole); intro h'_z190 F'_z190 N'_z190; (try simp only [List.push_toArray] at N'_z190); (try k_sweep)))
  (k_with "call builtin:list.append" => (k_here; (with_reducible show wpAny _ _ (call (Value.builtin _) [Value.ref _, _]) _ _ _); k_dflt (refine' append_K ?k1_z191 ?k2_z191 ?k3_z191 ?_ ?z_z191; (case k1_z191 => k_asm); (case k2_z191 => k_asm); (case k3_z191 => k_upd); (case z_z191 => (rw [PySem.sizeLine_eq]; simp only [List.size_toArray, List.length_append, List.length_singleton]; omega)); k_whole); intro h'_z191 F'_z191 N'_z191; (try simp only [List.push_toArray] at N'_z191); (try k_sweep)))
  (k_with "call builtin:list.append" => (k_here; (with_reducible show wpAny _ _ (call (Value.builtin _) [Value.ref _, _]) _ _ _); k_dflt (refine' append_K ?k1_z192 ?k2_z192 ?k3_z192 ?_ ?z_z192; (case k1_z192 => k_asm); (case k2_z192 => k_asm); (case k3_z192 => k_upd); (case z_z192 => (rw [PySem.sizeLine_eq]; simp only [List.size_toArray, List.length_append, List.length_singleton]; omega)); k_whole); intro h'_z192 F'_z192 N'_z192; (try simp only [List.push_toArray] at N'_z192); (try k_sweep)))
  (k_with "subscriptTail" => (k_here; (with_reducible show wpAny _ _ (subscriptTail _ _ (Value.ref _) (Value.int _ _)) _ _ _); k_dflt (refine' item_lst ?hl_z193 ?h0_z193 ?h1_z193 ?hx_z193 ?_ ?hs_z193); (case hl_z193 => is_list); (case h0_z193 => omega); (case h1_z193 => omega); (case hx_z193 => k_dflt assumption); (case hs_z193 => with_unfolding_all rfl)))
  (k_with "subscriptTail" => (k_here; (with_reducible show wpAny _ _ (subscriptTail _ _ (Value.ref _) (Value.int _ _)) _ _ _); k_dflt (refine' item_lst ?hl_z194 ?h0_z194 ?h1_z194 ?hx_z194 ?_ ?hs_z194); (case hl_z194 => is_list); (case h0_z194 => omega); (case h1_z194 => omega); (case hx_z194 => k_dflt assumption); (case hs_z194 => with_unfolding_all rfl)))
  (k_with "subscriptTail" => (k_here; (with_reducible show wpAny _ _ (subscriptTail _ _ (Value.ref _) (Value.int _ _)) _ _ _); k_dflt (refine' item_lst ?hl_z195 ?h0_z195 ?h1_z195 ?hx_z195 ?_ ?hs_z195); (case hl_z195 => is_list); (case h0_z195 => omega); (case h1_z195 => omega); (case hx_z195 => k_dflt assumption); (case hs_z195 => with_unfolding_all rfl)))
  (k_with "subscriptTail" => (k_here; (with_reducible show wpAny _ _ (subscriptTail _ _ (Value.ref _) (Value.int _ _)) _ _ _); k_dflt (refine' item_lst ?hl_z196 ?h0_z196 ?h1_z196 ?hx_z196 ?_ ?hs_z196); (case hl_z196 => is_list); (case h0_z196 => omega); (case h1_z196 => omega); (case hx_z196 => k_dflt assumption); (case hs_z196 => with_unfolding_all rfl)))
  (k_with "subscriptTail" => (k_here; (with_reducible show wpAny _ _ (subscriptTail _ _ (Value.ref _) (Value.int _ _)) _ _ _); k_dflt (refine' item_lst ?hl_z197 ?h0_z197 ?h1_z197 ?hx_z197 ?_ ?hs_z197); (case hl_z197 => is_list); (case h0_z197 => omega); (case h1_z197 => omega); (case hx_z197 => k_dflt assumption); (case hs_z197 => with_unfolding_all rfl)))
  (k_with "subscriptTail" => (k_here; (with_reducible show wpAny _ _ (subscriptTail _ _ (Value.ref _) (Value.int _ _)) _ _ _); k_dflt (refine' item_lst ?hl_z198 ?h0_z198 ?h1_z198 ?hx_z198 ?_ ?hs_z198); (case hl_z198 => is_list); (case h0_z198 => omega); (case h1_z198 => omega); (case hx_z198 => k_dflt assumption); (case hs_z198 => with_unfolding_all rfl)))
  (k_with "subscriptTail" => (k_here; (with_reducible show wpAny _ _ (subscriptTail _ _ (Value.ref _) (Value.int 0 _)) _ _ _); k_dflt (refine' item_first (Fr.tup ?F_z199 ?t_z199) ?_ ?hs_z199 ?hg_z199); (case F_z199 => assumption); (case t_z199 => assumption); (case hs_z199 => with_unfolding_all rfl); (case hg_z199 => (intro _; with_unfolding_all rfl))))
  (k_with "subscriptTail" => (k_here; (with_reducible show wpAny _ _ (subscriptTail _ _ (Value.ref _) (Value.int 0 _)) _ _ _); k_dflt (refine' item_first (Fr.tup ?F_z200 ?t_z200) ?_ ?hs_z200 ?hg_z200); (case F_z200 => assumption); (case t_z200 => assumption); (case hs_z200 => with_unfolding_all rfl); (case hg_z200 => (intro _; with_unfolding_all rfl))))
  (k_with "subscriptTail" => (k_here; (with_reducible show wpAny _ _ (subscriptTail _ _ (Value.ref _) (Value.int 0 _)) _ _ _); k_dflt (refine' item_first (Fr.tup ?F_z201 ?t_z201) ?_ ?hs_z201 ?hg_z201); (case F_z201 => assumption); (case t_z201 => assumption); (case hs_z201 => with_unfolding_all rfl); (case hg_z201 => (intro _; with_unfolding_all rfl))))
  (k_with "subscriptTail" => (k_here; (with_reducible show wpAny _ _ (subscriptTail _ _ (Value.ref _) (Value.int 0 _)) _ _ _); k_dflt (refine' item_first (Fr.tup ?F_z202 ?t_z202) ?_ ?hs_z202 ?hg_z202); (case F_z202 => assumption); (case t_z202 => assumption); (case hs_z202 => with_unfolding_all rfl); (case hg_z202 => (intro _; with_unfolding_all rfl))))
  (k_with "subscriptTail" => (k_here; (with_reducible show wpAny _ _ (subscriptTail _ _ (Value.ref _) (Value.int 0 _)) _ _ _); k_dflt (refine' item_first (Fr.tup ?F_z203 ?t_z203) ?_ ?hs_z203 ?hg_z203); (case F_z203 => assumption); (case t_z203 => assumption); (case hs_z203 => with_unfolding_all rfl); (case hg_z203 => (intro _; with_unfolding_all rfl))))
  (k_with "subscriptTail" => (k_here; (with_reducible show wpAny _ _ (subscriptTail _ _ (Value.ref _) (Value.int 0 _)) _ _ _); k_dflt (refine' item_first (Fr.tup ?F_z204 ?t_z204) ?_ ?hs_z204 ?hg_z204); (case F_z204 => assumption); (case t_z204 => assumption); (case hs_z204 => with_unfolding_all rfl); (case hg_z204 => (intro _; with_unfolding_all rfl))))
  (k_with "compareOp In int ref" => (k_here; k_dflt (refine' kda_in (knd := PySem.intKind _ _) ?N_z205 ?m_z205 ?d_z205 ?l_z205 (intKind_is _ _ _ _) _ ?b_z205 ?_); (case N_z205 => k_asm); (case d_z205 => k_asm); (case m_z205 => k_mem); (case l_z205 => assumption); (case b_z205 => k_dflt assumption)))
  (k_with "compareOp In int ref" => (k_here; k_dflt (refine' kda_in (knd := PySem.intKind _ _) ?N_z206 ?m_z206 ?d_z206 ?l_z206 (intKind_is _ _ _ _) _ ?b_z206 ?_); (case N_z206 => k_asm); (case d_z206 => k_asm); (case m_z206 => k_mem); (case l_z206 => assumption); (case b_z206 => k_dflt assumption)))
  (k_with "compareOp In int ref" => (k_here; k_dflt (refine' kda_in (knd := PySem.intKind _ _) ?N_z207 ?m_z207 ?d_z207 ?l_z207 (intKind_is _ _ _ _) _ ?b_z207 ?_); (case N_z207 => k_asm); (case d_z207 => k_asm); (case m_z207 => k_mem); (case l_z207 => assumption); (case b_z207 => k_dflt assumption)))
  (k_with "compareOp In int ref" => (k_here; k_dflt (refine' kda_in (knd := PySem.intKind _ _) ?N_z208 ?m_z208 ?d_z208 ?l_z208 (intKind_is _ _ _ _) _ ?b_z208 ?_); (case N_z208 => k_asm); (case d_z208 => k_asm); (case m_z208 => k_mem); (case l_z208 => assumption); (case b_z208 => k_dflt assumption)))
  (k_with "compareOp In int ref" => (k_here; k_dflt (refine' kda_in (knd := PySem.intKind _ _) ?N_z209 ?m_z209 ?d_z209 ?l_z209 (intKind_is _ _ _ _) _ ?b_z209 ?_); (case N_z209 => k_asm); (case d_z209 => k_asm); (case m_z209 => k_mem); (case l_z209 => assumption); (case b_z209 => k_dflt assumption)))
  (k_with "compareOp In int ref" => (k_here; k_dflt (refine' kda_in (knd := PySem.intKind _ _) ?N_z210 ?m_z210 ?d_z210 ?l_z210 (intKind_is _ _ _ _) _ ?b_z210 ?_); (case N_z210 => k_asm); (case d_z210 => k_asm); (case m_z210 => k_mem); (case l_z210 => assumption); (case b_z210 => k_dflt assumption)))
  (k_with "subscriptTail" => (k_here; (with_reducible show wpAny _ _ (subscriptTail _ _ (Value.ref _) (Value.int _ _)) _ _ _); k_dflt (refine' kda_item (knd := PySem.intKind _ _) ?N_z211 ?m_z211 ?d_z211 (intKind_is _ _ _ _) ?v_z211 ?_ ?hs_z211 ?hg_z211); (case N_z211 => k_asm); (case d_z211 => k_asm); (case m_z211 => k_mem); (case v_z211 => k_dflt assumption); (case hs_z211 => with_unfolding_all rfl); (case hg_z211 => (intro _; with_unfolding_all rfl))))
  (k_with "subscriptTail" => (k_here; (with_reducible show wpAny _ _ (subscriptTail _ _ (Value.ref _) (Value.int _ _)) _ _ _); k_dflt (refine' kda_item (knd := PySem.intKind _ _) ?N_z212 ?m_z212 ?d_z212 (intKind_is _ _ _ _) ?v_z212 ?_ ?hs_z212 ?hg_z212); (case N_z212 => k_asm); (case d_z212 => k_asm); (case m_z212 => k_mem); (case v_z212 => k_dflt assumption); (case hs_z212 => with_unfolding_all rfl); (case hg_z212 => (intro _; with_unfolding_all rfl))))
  (k_with "subscriptTail" => (k_here; (with_reducible show wpAny _ _ (subscriptTail _ _ (Value.ref _) (Value.int _ _)) _ _ _); k_dflt (refine' kda_item (knd := PySem.intKind _ _) ?N_z213 ?m_z213 ?d_z213 (intKind_is _ _ _ _) ?v_z213 ?_ ?hs_z213 ?hg_z213); (case N_z213 => k_asm); (case d_z213 => k_asm); (case m_z213 => k_mem); (case v_z213 => k_dflt assumption); (case hs_z213 => with_unfolding_all rfl); (case hg_z213 => (intro _; with_unfolding_all rfl))))
  (k_with "subscriptTail" => (k_here; (with_reducible show wpAny _ _ (subscriptTail _ _ (Value.ref _) (Value.int _ _)) _ _ _); k_dflt (refine' kda_item (knd := PySem.intKind _ _) ?N_z214 ?m_z214 ?d_z214 (intKind_is _ _ _ _) ?v_z214 ?_ ?hs_z214 ?hg_z214); (case N_z214 => k_asm); (case d_z214 => k_asm); (case m_z214 => k_mem); (case v_z214 => k_dflt assumption); (case hs_z214 => with_unfolding_all rfl); (case hg_z214 => (intro _; with_unfolding_all rfl))))
  (k_with "subscriptTail" => (k_here; (with_reducible show wpAny _ _ (subscriptTail _ _ (Value.ref _) (Value.int _ _)) _ _ _); k_dflt (refine' kda_item (knd := PySem.intKind _ _) ?N_z215 ?m_z215 ?d_z215 (intKind_is _ _ _ _) ?v_z215 ?_ ?hs_z215 ?hg_z215); (case N_z215 => k_asm); (case d_z215 => k_asm); (case m_z215 => k_mem); (case v_z215 => k_dflt assumption); (case hs_z215 => with_unfolding_all rfl); (case hg_z215 => (intro _; with_unfolding_all rfl))))
  (k_with "subscriptTail" => (k_here; (with_reducible show wpAny _ _ (subscriptTail _ _ (Value.ref _) (Value.int _ _)) _ _ _); k_dflt (refine' kda_item (knd := PySem.intKind _ _) ?N_z216 ?m_z216 ?d_z216 (intKind_is _ _ _ _) ?v_z216 ?_ ?hs_z216 ?hg_z216); (case N_z216 => k_asm); (case d_z216 => k_asm); (case m_z216 => k_mem); (case v_z216 => k_dflt assumption); (case hs_z216 => with_unfolding_all rfl); (case hg_z216 => (intro _; with_unfolding_all rfl))))
  (k_with "setItem ref int" => (k_here; k_dflt (refine' kda_set (knd := PySem.intKind _ _) ?F_z217 ?N_z217 ?U_z217 ?d_z217 (intKind_is _ _ _ _) ?z_z217 ?_; (case F_z217 => k_asm); (case N_z217 => k_asm); (case U_z217 => k_updF); (case d_z217 => k_asm); (case z_z217 => (rw [PySem.sizeLine_eq]; omega))); intro h'_z217 o'_z217 F'_z217 N'_z217 hd'_z217; (try dsimp only at N'_z217); (try k_sweep)))
  (k_with "setItem ref int" => (k_here; k_dflt (refine' kda_set (knd := PySem.intKind _ _) ?F_z218 ?N_z218 ?U_z218 ?d_z218 (intKind_is _ _ _ _) ?z_z218 ?_; (case F_z218 => k_asm); (case N_z218 => k_asm); (case U_z218 => k_updF); (case d_z218 => k_asm); (case z_z218 => (rw [PySem.sizeLine_eq]; omega))); intro h'_z218 o'_z218 F'_z218 N'_z218 hd'_z218; (try dsimp only at N'_z218); (try k_sweep)))
  (k_with "setItem ref int" => (k_here; k_dflt (refine' kda_set (knd := PySem.intKind _ _) ?F_z219 ?N_z219 ?U_z219 ?d_z219 (intKind_is _ _ _ _) ?z_z219 ?_; (case F_z219 => k_asm); (case N_z219 => k_asm); (case U_z219 => k_updF); (case d_z219 => k_asm); (case z_z219 => (rw [PySem.sizeLine_eq]; omega))); intro h'_z219 o'_z219 F'_z219 N'_z219 hd'_z219; (try dsimp only at N'_z219); (try k_sweep)))
  (k_with "setItem ref int" => (k_here; k_dflt (refine' kda_set (knd := PySem.intKind _ _) ?F_z220 ?N_z220 ?U_z220 ?d_z220 (intKind_is _ _ _ _) ?z_z220 ?_; (case F_z220 => k_asm); (case N_z220 => k_asm); (case U_z220 => k_updF); (case d_z220 => k_asm); (case z_z220 => (rw [PySem.sizeLine_eq]; omega))); intro h'_z220 o'_z220 F'_z220 N'_z220 hd'_z220; (try dsimp only at N'_z220); (try k_sweep)))
  (k_with "setItem ref int" => (k_here; k_dflt (refine' kda_set (knd := PySem.intKind _ _) ?F_z221 ?N_z221 ?U_z221 ?d_z221 (intKind_is _ _ _ _) ?z_z221 ?_; (case F_z221 => k_asm); (case N_z221 => k_asm); (case U_z221 => k_updF); (case d_z221 => k_asm); (case z_z221 => (rw [PySem.sizeLine_eq]; omega))); intro h'_z221 o'_z221 F'_z221 N'_z221 hd'_z221; (try dsimp only at N'_z221); (try k_sweep)))
  (k_with "setItem ref int" => (k_here; k_dflt (refine' kda_set (knd := PySem.intKind _ _) ?F_z222 ?N_z222 ?U_z222 ?d_z222 (intKind_is _ _ _ _) ?z_z222 ?_; (case F_z222 => k_asm); (case N_z222 => k_asm); (case U_z222 => k_updF); (case d_z222 => k_asm); (case z_z222 => (rw [PySem.sizeLine_eq]; omega))); intro h'_z222 o'_z222 F'_z222 N'_z222 hd'_z222; (try dsimp only at N'_z222); (try k_sweep)))
  (k_with "compareOp NotEq ref ref" => (k_here; k_dflt (refine' ke_ne_ints (News.isList ?N_z223 ?a_z223) (News.isList ?N2_z223 ?b_z223) ?i_z223 ?j_z223 ?u_z223 ?_; (case N_z223 => k_asm); (case a_z223 => k_mem); (case N2_z223 => k_asm); (case b_z223 => k_mem); (case i_z223 => k_asm); (case j_z223 => k_asm); (case u_z223 => ((have hcL'_z223 := cLine_is); simp only [units_in1, units_deeper]; (try dsimp only [Ar]); omega)))))
  (k_with "compareOp NotEq ref ref" => (k_here; k_dflt (refine' ke_ne_ints (News.isList ?N_z224 ?a_z224) (News.isList ?N2_z224 ?b_z224) ?i_z224 ?j_z224 ?u_z224 ?_; (case N_z224 => k_asm); (case a_z224 => k_mem); (case N2_z224 => k_asm); (case b_z224 => k_mem); (case i_z224 => k_asm); (case j_z224 => k_asm); (case u_z224 => ((have hcL'_z224 := cLine_is); simp only [units_in1, units_deeper]; (try dsimp only [Ar]); omega)))))
  (k_with "compareOp NotEq ref ref" => (k_here; k_dflt (refine' ke_ne_ints (News.isList ?N_z225 ?a_z225) (News.isList ?N2_z225 ?b_z225) ?i_z225 ?j_z225 ?u_z225 ?_; (case N_z225 => k_asm); (case a_z225 => k_mem); (case N2_z225 => k_asm); (case b_z225 => k_mem); (case i_z225 => k_asm); (case j_z225 => k_asm); (case u_z225 => ((have hcL'_z225 := cLine_is); simp only [units_in1, units_deeper]; (try dsimp only [Ar]); omega)))))
  (k_with "compareOp NotEq ref ref" => (k_here; k_dflt (refine' ke_ne_ints (News.isList ?N_z226 ?a_z226) (News.isList ?N2_z226 ?b_z226) ?i_z226 ?j_z226 ?u_z226 ?_; (case N_z226 => k_asm); (case a_z226 => k_mem); (case N2_z226 => k_asm); (case b_z226 => k_mem); (case i_z226 => k_asm); (case j_z226 => k_asm); (case u_z226 => ((have hcL'_z226 := cLine_is); simp only [units_in1, units_deeper]; (try dsimp only [Ar]); omega)))))
  (k_with "compareOp NotEq ref ref" => (k_here; k_dflt (refine' ke_ne_ints (News.isList ?N_z227 ?a_z227) (News.isList ?N2_z227 ?b_z227) ?i_z227 ?j_z227 ?u_z227 ?_; (case N_z227 => k_asm); (case a_z227 => k_mem); (case N2_z227 => k_asm); (case b_z227 => k_mem); (case i_z227 => k_asm); (case j_z227 => k_asm); (case u_z227 => ((have hcL'_z227 := cLine_is); simp only [units_in1, units_deeper]; (try dsimp only [Ar]); omega)))))
  (k_with "compareOp NotEq ref ref" => (k_here; k_dflt (refine' ke_ne_ints (News.isList ?N_z228 ?a_z228) (News.isList ?N2_z228 ?b_z228) ?i_z228 ?j_z228 ?u_z228 ?_; (case N_z228 => k_asm); (case a_z228 => k_mem); (case N2_z228 => k_asm); (case b_z228 => k_mem); (case i_z228 => k_asm); (case j_z228 => k_asm); (case u_z228 => ((have hcL'_z228 := cLine_is); simp only [units_in1, units_deeper]; (try dsimp only [Ar]); omega)))))
  (k_with "compareOp NotEq ref ref" => (k_here; k_dflt (refine' ne_empty (News.get ?N_z229 ?a_z229) (News.get ?N2_z229 ?b_z229) ?u_z229 ?_; (case N_z229 => k_asm); (case a_z229 => k_mem); (case N2_z229 => k_asm); (case b_z229 => k_mem); (case u_z229 => ((have hcL'_z229 := cLine_is); simp only [units_in1, units_deeper]; (try dsimp only [Ar]); omega)))))
  (k_with "compareOp NotEq ref ref" => (k_here; k_dflt (refine' ne_empty (News.get ?N_z230 ?a_z230) (News.get ?N2_z230 ?b_z230) ?u_z230 ?_; (case N_z230 => k_asm); (case a_z230 => k_mem); (case N2_z230 => k_asm); (case b_z230 => k_mem); (case u_z230 => ((have hcL'_z230 := cLine_is); simp only [units_in1, units_deeper]; (try dsimp only [Ar]); omega)))))
  (k_with "compareOp NotEq ref ref" => (k_here; k_dflt (refine' ne_empty (News.get ?N_z231 ?a_z231) (News.get ?N2_z231 ?b_z231) ?u_z231 ?_; (case N_z231 => k_asm); (case a_z231 => k_mem); (case N2_z231 => k_asm); (case b_z231 => k_mem); (case u_z231 => ((have hcL'_z231 := cLine_is); simp only [units_in1, units_deeper]; (try dsimp only [Ar]); omega)))))
  (k_with "compareOp NotEq ref ref" => (k_here; k_dflt (refine' ne_empty (News.get ?N_z232 ?a_z232) (News.get ?N2_z232 ?b_z232) ?u_z232 ?_; (case N_z232 => k_asm); (case a_z232 => k_mem); (case N2_z232 => k_asm); (case b_z232 => k_mem); (case u_z232 => ((have hcL'_z232 := cLine_is); simp only [units_in1, units_deeper]; (try dsimp only [Ar]); omega)))))
  (k_with "compareOp NotEq ref ref" => (k_here; k_dflt (refine' ne_empty (News.get ?N_z233 ?a_z233) (News.get ?N2_z233 ?b_z233) ?u_z233 ?_; (case N_z233 => k_asm); (case a_z233 => k_mem); (case N2_z233 => k_asm); (case b_z233 => k_mem); (case u_z233 => ((have hcL'_z233 := cLine_is); simp only [units_in1, units_deeper]; (try dsimp only [Ar]); omega)))))
  (k_with "compareOp NotEq ref ref" => (k_here; k_dflt (refine' ne_empty (News.get ?N_z234 ?a_z234) (News.get ?N2_z234 ?b_z234) ?u_z234 ?_; (case N_z234 => k_asm); (case a_z234 => k_mem); (case N2_z234 => k_asm); (case b_z234 => k_mem); (case u_z234 => ((have hcL'_z234 := cLine_is); simp only [units_in1, units_deeper]; (try dsimp only [Ar]); omega)))))
  (k_with "compareOp Eq ref ref" => (k_here; k_dflt (refine' eq_empty (News.get ?N_z235 ?a_z235) (News.get ?N2_z235 ?b_z235) ?u_z235 ?_; (case N_z235 => k_asm); (case a_z235 => k_mem); (case N2_z235 => k_asm); (case b_z235 => k_mem); (case u_z235 => ((have hcL'_z235 := cLine_is); simp only [units_in1, units_deeper]; (try dsimp only [Ar]); omega)))))
  (k_with "compareOp Eq ref ref" => (k_here; k_dflt (refine' eq_empty (News.get ?N_z236 ?a_z236) (News.get ?N2_z236 ?b_z236) ?u_z236 ?_; (case N_z236 => k_asm); (case a_z236 => k_mem); (case N2_z236 => k_asm); (case b_z236 => k_mem); (case u_z236 => ((have hcL'_z236 := cLine_is); simp only [units_in1, units_deeper]; (try dsimp only [Ar]); omega)))))
  (k_with "compareOp Eq ref ref" => (k_here; k_dflt (refine' eq_empty (News.get ?N_z237 ?a_z237) (News.get ?N2_z237 ?b_z237) ?u_z237 ?_; (case N_z237 => k_asm); (case a_z237 => k_mem); (case N2_z237 => k_asm); (case b_z237 => k_mem); (case u_z237 => ((have hcL'_z237 := cLine_is); simp only [units_in1, units_deeper]; (try dsimp only [Ar]); omega)))))
  (k_with "compareOp Eq ref ref" => (k_here; k_dflt (refine' eq_empty (News.get ?N_z238 ?a_z238) (News.get ?N2_z238 ?b_z238) ?u_z238 ?_; (case N_z238 => k_asm); (case a_z238 => k_mem); (case N2_z238 => k_asm); (case b_z238 => k_mem); (case u_z238 => ((have hcL'_z238 := cLine_is); simp only [units_in1, units_deeper]; (try dsimp only [Ar]); omega)))))
  (k_with "compareOp Eq ref ref" => (k_here; k_dflt (refine' eq_empty (News.get ?N_z239 ?a_z239) (News.get ?N2_z239 ?b_z239) ?u_z239 ?_; (case N_z239 => k_asm); (case a_z239 => k_mem); (case N2_z239 => k_asm); (case b_z239 => k_mem); (case u_z239 => ((have hcL'_z239 := cLine_is); simp only [units_in1, units_deeper]; (try dsimp only [Ar]); omega)))))
  (k_with "compareOp Eq ref ref" => (k_here; k_dflt (refine' eq_empty (News.get ?N_z240 ?a_z240) (News.get ?N2_z240 ?b_z240) ?u_z240 ?_; (case N_z240 => k_asm); (case a_z240 => k_mem); (case N2_z240 => k_asm); (case b_z240 => k_mem); (case u_z240 => ((have hcL'_z240 := cLine_is); simp only [units_in1, units_deeper]; (try dsimp only [Ar]); omega)))))
  (k_with "call builtin:list.pop" => (k_here; k_dflt (refine' pop_first ?F_z241 ?N_z241 ?U_z241 ?z_z241 ?_); (case F_z241 => k_asm); (case N_z241 => k_asm); (case U_z241 => k_upd); (case z_z241 => omega); k_whole; intro h'_z241 F'_z241 N'_z241; (try dsimp only at N'_z241); (try k_sweep)))
  (k_with "call builtin:list.pop" => (k_here; k_dflt (refine' pop_first ?F_z242 ?N_z242 ?U_z242 ?z_z242 ?_); (case F_z242 => k_asm); (case N_z242 => k_asm); (case U_z242 => k_upd); (case z_z242 => omega); k_whole; intro h'_z242 F'_z242 N'_z242; (try dsimp only at N'_z242); (try k_sweep)))
  (k_with "call builtin:list.pop" => (k_here; k_dflt (refine' pop_first ?F_z243 ?N_z243 ?U_z243 ?z_z243 ?_); (case F_z243 => k_asm); (case N_z243 => k_asm); (case U_z243 => k_upd); (case z_z243 => omega); k_whole; intro h'_z243 F'_z243 N'_z243; (try dsimp only at N'_z243); (try k_sweep)))
  (k_with "call builtin:list.pop" => (k_here; k_dflt (refine' pop_first ?F_z244 ?N_z244 ?U_z244 ?z_z244 ?_); (case F_z244 => k_asm); (case N_z244 => k_asm); (case U_z244 => k_upd); (case z_z244 => omega); k_whole; intro h'_z244 F'_z244 N'_z244; (try dsimp only at N'_z244); (try k_sweep)))
  (k_with "call builtin:list.pop" => (k_here; k_dflt (refine' pop_first ?F_z245 ?N_z245 ?U_z245 ?z_z245 ?_); (case F_z245 => k_asm); (case N_z245 => k_asm); (case U_z245 => k_upd); (case z_z245 => omega); k_whole; intro h'_z245 F'_z245 N'_z245; (try dsimp only at N'_z245); (try k_sweep)))
  (k_with "call builtin:list.pop" => (k_here; k_dflt (refine' pop_first ?F_z246 ?N_z246 ?U_z246 ?z_z246 ?_); (case F_z246 => k_asm); (case N_z246 => k_asm); (case U_z246 => k_upd); (case z_z246 => omega); k_whole; intro h'_z246 F'_z246 N'_z246; (try dsimp only at N'_z246); (try k_sweep)))
  (k_with "call builtin:list.pop" => (k_here; k_dflt (refine' pop_last ?F_z247 ?N_z247 ?U_z247 ?z_z247 ?_); (case F_z247 => k_asm); (case N_z247 => k_asm); (case U_z247 => k_upd); (case z_z247 => omega); k_whole; intro h'_z247 F'_z247 N'_z247; (try dsimp only at N'_z247); (try k_sweep)))
  (k_with "call builtin:list.pop" => (k_here; k_dflt (refine' pop_last ?F_z248 ?N_z248 ?U_z248 ?z_z248 ?_); (case F_z248 => k_asm); (case N_z248 => k_asm); (case U_z248 => k_upd); (case z_z248 => omega); k_whole; intro h'_z248 F'_z248 N'_z248; (try dsimp only at N'_z248); (try k_sweep)))
  (k_with "call builtin:list.pop" => (k_here; k_dflt (refine' pop_last ?F_z249 ?N_z249 ?U_z249 ?z_z249 ?_); (case F_z249 => k_asm); (case N_z249 => k_asm); (case U_z249 => k_upd); (case z_z249 => omega); k_whole; intro h'_z249 F'_z249 N'_z249; (try dsimp only at N'_z249); (try k_sweep)))
  (k_with "call builtin:list.pop" => (k_here; k_dflt (refine' pop_last ?F_z250 ?N_z250 ?U_z250 ?z_z250 ?_); (case F_z250 => k_asm); (case N_z250 => k_asm); (case U_z250 => k_upd); (case z_z250 => omega); k_whole; intro h'_z250 F'_z250 N'_z250; (try dsimp only at N'_z250); (try k_sweep)))
  (k_with "call builtin:list.pop" => (k_here; k_dflt (refine' pop_last ?F_z251 ?N_z251 ?U_z251 ?z_z251 ?_); (case F_z251 => k_asm); (case N_z251 => k_asm); (case U_z251 => k_upd); (case z_z251 => omega); k_whole; intro h'_z251 F'_z251 N'_z251; (try dsimp only at N'_z251); (try k_sweep)))
  (k_with "call builtin:list.pop" => (k_here; k_dflt (refine' pop_last ?F_z252 ?N_z252 ?U_z252 ?z_z252 ?_); (case F_z252 => k_asm); (case N_z252 => k_asm); (case U_z252 => k_upd); (case z_z252 => omega); k_whole; intro h'_z252 F'_z252 N'_z252; (try dsimp only at N'_z252); (try k_sweep)))
  (k_with "newTuple" => (k_here; k_dflt (refine' kup_newTuple ?F_z253 ?N_z253 ?_ ?z_z253; (case F_z253 => k_asm); (case N_z253 => k_asm); (case z_z253 => kmk_size)); intro D'_z253 h'_z253 F'_z253 N'_z253 l1_z253; (try k_lt l1_z253); (try k_sweep)))
  (k_with "newTuple" => (k_here; k_dflt (refine' kup_newTuple ?F_z254 ?N_z254 ?_ ?z_z254; (case F_z254 => k_asm); (case N_z254 => k_asm); (case z_z254 => kmk_size)); intro D'_z254 h'_z254 F'_z254 N'_z254 l1_z254; (try k_lt l1_z254); (try k_sweep)))
  (k_with "newTuple" => (k_here; k_dflt (refine' kup_newTuple ?F_z255 ?N_z255 ?_ ?z_z255; (case F_z255 => k_asm); (case N_z255 => k_asm); (case z_z255 => kmk_size)); intro D'_z255 h'_z255 F'_z255 N'_z255 l1_z255; (try k_lt l1_z255); (try k_sweep)))
  (k_with "newTuple" => (k_here; k_dflt (refine' kup_newTuple ?F_z256 ?N_z256 ?_ ?z_z256; (case F_z256 => k_asm); (case N_z256 => k_asm); (case z_z256 => kmk_size)); intro D'_z256 h'_z256 F'_z256 N'_z256 l1_z256; (try k_lt l1_z256); (try k_sweep)))
  (k_with "newTuple" => (k_here; k_dflt (refine' kup_newTuple ?F_z257 ?N_z257 ?_ ?z_z257; (case F_z257 => k_asm); (case N_z257 => k_asm); (case z_z257 => kmk_size)); intro D'_z257 h'_z257 F'_z257 N'_z257 l1_z257; (try k_lt l1_z257); (try k_sweep)))
  (k_with "newTuple" => (k_here; k_dflt (refine' kup_newTuple ?F_z258 ?N_z258 ?_ ?z_z258; (case F_z258 => k_asm); (case N_z258 => k_asm); (case z_z258 => kmk_size)); intro D'_z258 h'_z258 F'_z258 N'_z258 l1_z258; (try k_lt l1_z258); (try k_sweep)))
  (k_with "call ref" => (k_here; (with_reducible show wpAny _ _ (call (Value.ref 75) [_]) _ _ _); (with_unfolding_all refine' named_use (S := At _) ?hh_z259 ?hdp_z259 ?F_z259 ?X_z259 ?T_z259 ?N_z259 ?hS_z259 ?hr_z259 ?_); (case hh_z259 => with_unfolding_all exact rfl); (case hdp_z259 => ((try simp only [depth_under_make, depth_under_kw, depth_in1, depth_deeper]); (try dsimp only [Ar]); omega)); (case F_z259 => k_asm); (case X_z259 => k_asm); (case T_z259 => k_asm); (case N_z259 => k_asm); (case hr_z259 => k_dflt assumption); (case hS_z259 => exact Fr.keep (by k_asm)); k_whole; intro r_z259 its_z259 nr_z259 h'_z259 tk₁_z259 F'_z259 N'_z259 hrn_z259 hits_z259; (try k_sweep)))
  (k_with "call ref" => (k_here; (with_reducible show wpAny _ _ (call (Value.ref 75) [_]) _ _ _); (with_unfolding_all refine' named_use (S := At _) ?hh_z260 ?hdp_z260 ?F_z260 ?X_z260 ?T_z260 ?N_z260 ?hS_z260 ?hr_z260 ?_); (case hh_z260 => with_unfolding_all exact rfl); (case hdp_z260 => ((try simp only [depth_under_make, depth_under_kw, depth_in1, depth_deeper]); (try dsimp only [Ar]); omega)); (case F_z260 => k_asm); (case X_z260 => k_asm); (case T_z260 => k_asm); (case N_z260 => k_asm); (case hr_z260 => k_dflt assumption); (case hS_z260 => exact Fr.keep (by k_asm)); k_whole; intro r_z260 its_z260 nr_z260 h'_z260 tk₁_z260 F'_z260 N'_z260 hrn_z260 hits_z260; (try k_sweep)))
  (k_with "call ref" => (k_here; (with_reducible show wpAny _ _ (call (Value.ref 75) [_]) _ _ _); (with_unfolding_all refine' named_use (S := At _) ?hh_z261 ?hdp_z261 ?F_z261 ?X_z261 ?T_z261 ?N_z261 ?hS_z261 ?hr_z261 ?_); (case hh_z261 => with_unfolding_all exact rfl); (case hdp_z261 => ((try simp only [depth_under_make, depth_under_kw, depth_in1, depth_deeper]); (try dsimp only [Ar]); omega)); (case F_z261 => k_asm); (case X_z261 => k_asm); (case T_z261 => k_asm); (case N_z261 => k_asm); (case hr_z261 => k_dflt assumption); (case hS_z261 => exact Fr.keep (by k_asm)); k_whole; intro r_z261 its_z261 nr_z261 h'_z261 tk₁_z261 F'_z261 N'_z261 hrn_z261 hits_z261; (try k_sweep)))
  (k_with "call ref" => (k_here; (with_reducible show wpAny _ _ (call (Value.ref 75) [_]) _ _ _); (with_unfolding_all refine' named_use (S := At _) ?hh_z262 ?hdp_z262 ?F_z262 ?X_z262 ?T_z262 ?N_z262 ?hS_z262 ?hr_z262 ?_); (case hh_z262 => with_unfolding_all exact rfl); (case hdp_z262 => ((try simp only [depth_under_make, depth_under_kw, depth_in1, depth_deeper]); (try dsimp only [Ar]); omega)); (case F_z262 => k_asm); (case X_z262 => k_asm); (case T_z262 => k_asm); (case N_z262 => k_asm); (case hr_z262 => k_dflt assumption); (case hS_z262 => exact Fr.keep (by k_asm)); k_whole; intro r_z262 its_z262 nr_z262 h'_z262 tk₁_z262 F'_z262 N'_z262 hrn_z262 hits_z262; (try k_sweep)))
  (k_with "call ref" => (k_here; (with_reducible show wpAny _ _ (call (Value.ref 75) [_]) _ _ _); (with_unfolding_all refine' named_use (S := At _) ?hh_z263 ?hdp_z263 ?F_z263 ?X_z263 ?T_z263 ?N_z263 ?hS_z263 ?hr_z263 ?_); (case hh_z263 => with_unfolding_all exact rfl); (case hdp_z263 => ((try simp only [depth_under_make, depth_under_kw, depth_in1, depth_deeper]); (try dsimp only [Ar]); omega)); (case F_z263 => k_asm); (case X_z263 => k_asm); (case T_z263 => k_asm); (case N_z263 => k_asm); (case hr_z263 => k_dflt assumption); (case hS_z263 => exact Fr.keep (by k_asm)); k_whole; intro r_z263 its_z263 nr_z263 h'_z263 tk₁_z263 F'_z263 N'_z263 hrn_z263 hits_z263; (try k_sweep)))
  (k_with "call ref" => (k_here; (with_reducible show wpAny _ _ (call (Value.ref 75) [_]) _ _ _); (with_unfolding_all refine' named_use (S := At _) ?hh_z264 ?hdp_z264 ?F_z264 ?X_z264 ?T_z264 ?N_z264 ?hS_z264 ?hr_z264 ?_); (case hh_z264 => with_unfolding_all exact rfl); (case hdp_z264 => ((try simp only [depth_under_make, depth_under_kw, depth_in1, depth_deeper]); (try dsimp only [Ar]); omega)); (case F_z264 => k_asm); (case X_z264 => k_asm); (case T_z264 => k_asm); (case N_z264 => k_asm); (case hr_z264 => k_dflt assumption); (case hS_z264 => exact Fr.keep (by k_asm)); k_whole; intro r_z264 its_z264 nr_z264 h'_z264 tk₁_z264 F'_z264 N'_z264 hrn_z264 hits_z264; (try k_sweep)))
  (k_with "call type:list" => (k_here; (with_reducible show wpAny _ _ (call (Value.type _) [Value.ref _]) _ _ _); (with_unfolding_all refine' list_copyK ?k1_z265 ?k2_z265 (News.isList ?k3_z265 ?k4_z265) ?_ ?z_z265); (case k1_z265 => k_asm); (case k2_z265 => k_asm); (case k3_z265 => k_asm); (case k4_z265 => k_dflt k_mem); (case z_z265 => (rw [PySem.sizeLine_eq, List.size_toArray]; (try simp only [List.length_append, List.length_singleton]); omega)); k_whole; intro D'_z265 c'_z265 h'_z265 F'_z265 N'_z265 l1_z265; (try k_lt l1_z265); (try k_sweep)))
  (k_with "call type:list" => (k_here; (with_reducible show wpAny _ _ (call (Value.type _) [Value.ref _]) _ _ _); (with_unfolding_all refine' list_copyK ?k1_z266 ?k2_z266 (News.isList ?k3_z266 ?k4_z266) ?_ ?z_z266); (case k1_z266 => k_asm); (case k2_z266 => k_asm); (case k3_z266 => k_asm); (case k4_z266 => k_dflt k_mem); (case z_z266 => (rw [PySem.sizeLine_eq, List.size_toArray]; (try simp only [List.length_append, List.length_singleton]); omega)); k_whole; intro D'_z266 c'_z266 h'_z266 F'_z266 N'_z266 l1_z266; (try k_lt l1_z266); (try k_sweep)))
  (k_with "call type:list" => (k_here; (with_reducible show wpAny _ _ (call (Value.type _) [Value.ref _]) _ _ _); (with_unfolding_all refine' list_copyK ?k1_z267 ?k2_z267 (News.isList ?k3_z267 ?k4_z267) ?_ ?z_z267); (case k1_z267 => k_asm); (case k2_z267 => k_asm); (case k3_z267 => k_asm); (case k4_z267 => k_dflt k_mem); (case z_z267 => (rw [PySem.sizeLine_eq, List.size_toArray]; (try simp only [List.length_append, List.length_singleton]); omega)); k_whole; intro D'_z267 c'_z267 h'_z267 F'_z267 N'_z267 l1_z267; (try k_lt l1_z267); (try k_sweep)))
  (k_with "call type:list" => (k_here; (with_reducible show wpAny _ _ (call (Value.type _) [Value.ref _]) _ _ _); (with_unfolding_all refine' list_copyK ?k1_z268 ?k2_z268 (News.isList ?k3_z268 ?k4_z268) ?_ ?z_z268); (case k1_z268 => k_asm); (case k2_z268 => k_asm); (case k3_z268 => k_asm); (case k4_z268 => k_dflt k_mem); (case z_z268 => (rw [PySem.sizeLine_eq, List.size_toArray]; (try simp only [List.length_append, List.length_singleton]); omega)); k_whole; intro D'_z268 c'_z268 h'_z268 F'_z268 N'_z268 l1_z268; (try k_lt l1_z268); (try k_sweep)))
  (k_with "call type:list" => (k_here; (with_reducible show wpAny _ _ (call (Value.type _) [Value.ref _]) _ _ _); (with_unfolding_all refine' list_copyK ?k1_z269 ?k2_z269 (News.isList ?k3_z269 ?k4_z269) ?_ ?z_z269); (case k1_z269 => k_asm); (case k2_z269 => k_asm); (case k3_z269 => k_asm); (case k4_z269 => k_dflt k_mem); (case z_z269 => (rw [PySem.sizeLine_eq, List.size_toArray]; (try simp only [List.length_append, List.length_singleton]); omega)); k_whole; intro D'_z269 c'_z269 h'_z269 F'_z269 N'_z269 l1_z269; (try k_lt l1_z269); (try k_sweep)))
  (k_with "call type:list" => (k_here; (with_reducible show wpAny _ _ (call (Value.type _) [Value.ref _]) _ _ _); (with_unfolding_all refine' list_copyK ?k1_z270 ?k2_z270 (News.isList ?k3_z270 ?k4_z270) ?_ ?z_z270); (case k1_z270 => k_asm); (case k2_z270 => k_asm); (case k3_z270 => k_asm); (case k4_z270 => k_dflt k_mem); (case z_z270 => (rw [PySem.sizeLine_eq, List.size_toArray]; (try simp only [List.length_append, List.length_singleton]); omega)); k_whole; intro D'_z270 c'_z270 h'_z270 F'_z270 N'_z270 l1_z270; (try k_lt l1_z270); (try k_sweep)))
  (k_with "call type:list" => (k_here; (with_reducible show wpAny _ _ (call (Value.type _) [Value.ref _]) _ _ _); (with_unfolding_all refine' list_copyK ?k1_z271 ?k2_z271 (News.isList ?k3_z271 ?k4_z271) ?_ ?z_z271); (case k1_z271 => k_asm); (case k2_z271 => k_asm); (case k3_z271 => k_asm); (case k4_z271 => k_dflt k_mem); (case z_z271 => (rw [PySem.sizeLine_eq, List.size_toArray]; (try simp only [List.length_append, List.length_singleton]); omega)); k_whole; intro D'_z271 c'_z271 h'_z271 F'_z271 N'_z271 l1_z271; (try k_lt l1_z271); (try k_sweep)))
  (k_with "call type:list" => (k_here; (with_reducible show wpAny _ _ (call (Value.type _) [Value.ref _]) _ _ _); (with_unfolding_all refine' list_copyK ?k1_z272 ?k2_z272 (News.isList ?k3_z272 ?k4_z272) ?_ ?z_z272); (case k1_z272 => k_asm); (case k2_z272 => k_asm); (case k3_z272 => k_asm); (case k4_z272 => k_dflt k_mem); (case z_z272 => (rw [PySem.sizeLine_eq, List.size_toArray]; (try simp only [List.length_append, List.length_singleton]); omega)); k_whole; intro D'_z272 c'_z272 h'_z272 F'_z272 N'_z272 l1_z272; (try k_lt l1_z272); (try k_sweep)))
  (k_with "call type:list" => (k_here; (with_reducible show wpAny _ _ (call (Value.type _) [Value.ref _]) _ _ _); (with_unfolding_all refine' list_copyK ?k1_z273 ?k2_z273 (News.isList ?k3_z273 ?k4_z273) ?_ ?z_z273); (case k1_z273 => k_asm); (case k2_z273 => k_asm); (case k3_z273 => k_asm); (case k4_z273 => k_dflt k_mem); (case z_z273 => (rw [PySem.sizeLine_eq, List.size_toArray]; (try simp only [List.length_append, List.length_singleton]); omega)); k_whole; intro D'_z273 c'_z273 h'_z273 F'_z273 N'_z273 l1_z273; (try k_lt l1_z273); (try k_sweep)))
  (k_with "call type:list" => (k_here; (with_reducible show wpAny _ _ (call (Value.type _) [Value.ref _]) _ _ _); (with_unfolding_all refine' list_copyK ?k1_z274 ?k2_z274 (News.isList ?k3_z274 ?k4_z274) ?_ ?z_z274); (case k1_z274 => k_asm); (case k2_z274 => k_asm); (case k3_z274 => k_asm); (case k4_z274 => k_dflt k_mem); (case z_z274 => (rw [PySem.sizeLine_eq, List.size_toArray]; (try simp only [List.length_append, List.length_singleton]); omega)); k_whole; intro D'_z274 c'_z274 h'_z274 F'_z274 N'_z274 l1_z274; (try k_lt l1_z274); (try k_sweep)))
  (k_with "call type:list" => (k_here; (with_reducible show wpAny _ _ (call (Value.type _) [Value.ref _]) _ _ _); (with_unfolding_all refine' list_copyK ?k1_z275 ?k2_z275 (News.isList ?k3_z275 ?k4_z275) ?_ ?z_z275); (case k1_z275 => k_asm); (case k2_z275 => k_asm); (case k3_z275 => k_asm); (case k4_z275 => k_dflt k_mem); (case z_z275 => (rw [PySem.sizeLine_eq, List.size_toArray]; (try simp only [List.length_append, List.length_singleton]); omega)); k_whole; intro D'_z275 c'_z275 h'_z275 F'_z275 N'_z275 l1_z275; (try k_lt l1_z275); (try k_sweep)))
  (k_with "call type:list" => (k_here; (with_reducible show wpAny _ _ (call (Value.type _) [Value.ref _]) _ _ _); (with_unfolding_all refine' list_copyK ?k1_z276 ?k2_z276 (News.isList ?k3_z276 ?k4_z276) ?_ ?z_z276); (case k1_z276 => k_asm); (case k2_z276 => k_asm); (case k3_z276 => k_asm); (case k4_z276 => k_dflt k_mem); (case z_z276 => (rw [PySem.sizeLine_eq, List.size_toArray]; (try simp only [List.length_append, List.length_singleton]); omega)); k_whole; intro D'_z276 c'_z276 h'_z276 F'_z276 N'_z276 l1_z276; (try k_lt l1_z276); (try k_sweep)))
  (k_with "call type:list" => (k_here; (with_reducible show wpAny _ _ (call (Value.type _) [Value.ref _]) _ _ _); (with_unfolding_all refine' list_copyK ?k1_z277 ?k2_z277 (News.isList ?k3_z277 ?k4_z277) ?_ ?z_z277); (case k1_z277 => k_asm); (case k2_z277 => k_asm); (case k3_z277 => k_asm); (case k4_z277 => k_dflt k_mem); (case z_z277 => (rw [PySem.sizeLine_eq, List.size_toArray]; (try simp only [List.length_append, List.length_singleton]); omega)); k_whole; intro D'_z277 c'_z277 h'_z277 F'_z277 N'_z277 l1_z277; (try k_lt l1_z277); (try k_sweep)))
  (k_with "call type:list" => (k_here; (with_reducible show wpAny _ _ (call (Value.type _) [Value.ref _]) _ _ _); (with_unfolding_all refine' list_copyK ?k1_z278 ?k2_z278 (News.isList ?k3_z278 ?k4_z278) ?_ ?z_z278); (case k1_z278 => k_asm); (case k2_z278 => k_asm); (case k3_z278 => k_asm); (case k4_z278 => k_dflt k_mem); (case z_z278 => (rw [PySem.sizeLine_eq, List.size_toArray]; (try simp only [List.length_append, List.length_singleton]); omega)); k_whole; intro D'_z278 c'_z278 h'_z278 F'_z278 N'_z278 l1_z278; (try k_lt l1_z278); (try k_sweep)))
  (k_with "execs cons" => (k_here; (with_reducible show wpAny _ _ (execs (_ :: Stmt.If _ _ _ _ :: Stmt.If _ _ _ _ :: Stmt.If _ _ _ _ :: Stmt.For _ _ _ _ _ :: _) _) _ _ _); refine' halt ?_))
  have _hx : (PySem.Challenge.rw_nn0292_01 = PySem.Challenge.rw_nn0292_01) ∧ (Mine.hd.heap_39 = Mine.hd.heap_39) := by k_fill; exact ⟨rfl, rfl⟩
  refine' enter [] [(Str.ofString "rows", .ref c)] hk₀ X₀ T₀ (by simp) ?k6 ?k7 ?k8 ?k9 ?kB ?_ ?c2 ?c3 ?c4 ?c5
  case k6 => k_is
  case k7 => k_is
  case k8 => (show dp < recursionLimit; omega)
  case k9 => exact BindsTo.of_eq rfl
  case c5 => decide
  case kB => exact locs rfl
  case c2 => exact rfl
  case c3 => exact rfl
  case c4 => exact rfl
  intro g L' h₁ tk₀ G F N X T
  try dsimp only
  k_fold
  replace G : ∀ b o, s.heap.get? b = some o → b ∉ [] → g.get? b = some o := G
  have hcg : g.IsList c vs.toArray := by
    obtain ⟨o, ho, r⟩ := hc
    exact ⟨o, G _ _ ho (by simp), r⟩
  have hrg : RowsAt (At g) vs rows := hr.mono fun a o _ e => G a o e (by simp)
  have hln := hrg.1
  clear hk₀ X₀ T₀ hc hr
  k_steps
  refine (?_ : wpAny _ _ _ _ _ _)
  rename Fr _ _ _ _ => F9
  rename News _ _ _ _ => N9
  rename Obj.IsDictOf (intKind _ _) _ _ => hi9
  obtain ⟨nx, Nx, hJ0⟩ := ls_start (rows := rows) F9 N9 hi9 (by omega) (by omega) (by omega) rfl rfl rfl
  refine' while_inv F9 Nx (LsI _ _ _ _ _ rows) hJ0 ?_
  clear hJ0 Nx N9 F9 hi9
  intro n m₁ nx hp tk hJ F' N'
  obtain ⟨oH, kvs, known, ps, n2, pe, rest, J⟩ := hJ
  obtain ⟨mo, e5⟩ := form3 J.m1 J.m2 J.m3
  obtain ⟨e1, hoff, hdi, hkn, hpe, hinv, hmeas, hroom, -, -, -⟩ := J
  subst e1
  subst e5
  have hkl := hkn.length
  have hpl := hpe.length
  have hkr := hinv.room hd
  show wpAny _ _ _ _ _ _
  k_fold
  cases hpe with
  | nil =>
    have hd0 := hinv.done
    k_steps
    all_goals (show Q _ _)
    all_goals exact h _ _ _ (back G (by assumption)) ⟨fun _ => hd0.mp rfl, fun _ => rfl⟩
  | @cons p ad tad v sc qs pe' e f hpe1 =>
    obtain ⟨o, us, no, rfl, hmo, hsc⟩ := f
    have hql := hpe1.length
    rw [List.length_cons] at hmeas
    have hre := hinv.pe (ad, sc) (by simp)
    have hw := hre.within hd
    have hw1 : 0 ≤ ad := hw.1
    have hw2 : ad < rows.length := hw.2
    have hsm : sc.length ≤ known.length := hinv.small (ad, sc) (by simp)
    have hus := hsc.length
    have hnp : (Value.ref p :: qs).toArray.size ≠ 0 := by simp
    rcases hkn.look ad with ⟨hvn, hno⟩ | ⟨v0, sc0, hvs, hm0, o0, us0, no0, rfl, hi0, hsc0⟩
    · have hbb : (valueAt kvs ad).isSome = false := by rw [hvn]; rfl
      obtain ⟨v, hv, hrow⟩ := hrg.at (i := ad.toNat) (by omega)
      have hgr : rows[ad.toNat]? = some rows[ad.toNat] := List.getElem?_eq_getElem (by omega)
      generalize rows[ad.toNat] = row at hrow hgr
      have hkr1 := hinv.room1 hd hno hre
      have htwo := hrow.two
      have hrow' := hrow
      k_steps
      unfold Halt
      obtain ⟨ra, rt, rxs, hvr, hnm⟩ := hrow'.named
      rename News _ _ _ _ => N9
      rename Fr _ _ _ _ => F9
      refine ls_cut row sc F9 N9 ?cutA ?cutB
      case cutA =>
        cases hrow with
        | fork er er2 hir hlr =>
          have ht := isTup_of er
          k_steps
          refine' LsCut.intro (by assumption) (by assumption) ?h2x1 ?h2x2 ?h2x3 ?h2x4 hoff ?l2x1 ?l2x2 hsc (rfl) rfl
          case h2x1 => (repeat (first | exact List.Mem.head _ | refine List.Mem.tail _ ?_))
          case h2x2 => (repeat (first | exact List.Mem.head _ | refine List.Mem.tail _ ?_))
          case h2x3 => (repeat (first | exact List.Mem.head _ | refine List.Mem.tail _ ?_))
          case h2x4 => (intro p hp; repeat (first | exact hp | refine List.Mem.tail _ ?_))
          case l2x1 => omega
          case l2x2 => omega
        | @leave a t cc v er =>
          have ht := isTup_of er
          rcases List.eq_nil_or_concat sc with e0 | ⟨sc', c', e0⟩
          · subst e0
            cases hsc
            k_steps
            all_goals (show Q _ _; exact h _ _ _ (back G (by assumption)) (false_good (bad_good hre hgr (leave_nil _))))
          · rw [List.concat_eq_append] at e0
            subst e0
            obtain ⟨us', t', e1, hsc'⟩ := intsAre_concat hsc
            subst e1
            rw [List.length_append, List.length_singleton, List.length_append, List.length_singleton] at hus
            rw [List.length_append, List.length_singleton] at hsm
            have hnz : (us' ++ [Value.int c' t']).toArray.size ≠ 0 := by simp
            k_steps
            all_goals (try unfold CutQ)
            all_goals (try dsimp only)
            all_goals (try k_unfold)
            · show Q _ _
              exact h _ _ _ (back G (by assumption)) (false_good (bad_good hre hgr (leave_ne (by assumption))))
            · refine' LsCut.intro (by assumption) (by assumption) ?h1x1 ?h1x2 ?h1x3 ?h1x4 hoff ?l1x1 ?l1x2 hsc' (leave_eq (by assumption)) rfl
              case h1x1 => (repeat (first | exact List.Mem.head _ | refine List.Mem.tail _ ?_))
              case h1x2 => (repeat (first | exact List.Mem.head _ | refine List.Mem.tail _ ?_))
              case h1x3 => (repeat (first | exact List.Mem.head _ | refine List.Mem.tail _ ?_))
              case h1x4 => (intro p hp; repeat (first | exact hp | refine List.Mem.tail _ ?_))
              case l1x1 => omega
              case l1x2 => omega
        | ende er =>
          have ht := isTup_of er
          k_steps
          all_goals (try unfold CutQ)
          all_goals (try dsimp only)
          all_goals (try k_unfold)
          all_goals first
            | (show Q _ _; exact h _ _ _ (back G (by assumption)) (false_good (bad_good hre hgr (ends_ng rfl (by assumption) hus))))
            | (show WhEnd _ _ _ _ _ _ _ _
               rename News _ _ _ _ => N9
               exact WhEnd.contE _ (by assumption) (newsDrop4 N9) (ls_turn hoff (.refl _) (by assumption) hvn hkn hmo hsc hpe1 hinv hno hgr hkr1 (by simp [handed, Row.targets, Row.falls]) htwo (ends_ok (by simp [behind]) (by assumption) hus) hmeas hroom rfl rfl rfl))
        | ret er =>
          have ht := isTup_of er
          k_steps
          all_goals (try unfold CutQ)
          all_goals (try dsimp only)
          all_goals (try k_unfold)
          all_goals first
            | (show Q _ _; exact h _ _ _ (back G (by assumption)) (false_good (bad_good hre hgr (ends_ng rfl (by assumption) hus))))
            | (show WhEnd _ _ _ _ _ _ _ _
               rename News _ _ _ _ => N9
               exact WhEnd.contE _ (by assumption) (newsDrop4 N9) (ls_turn hoff (.refl _) (by assumption) hvn hkn hmo hsc hpe1 hinv hno hgr hkr1 (by simp [handed, Row.targets, Row.falls]) htwo (ends_ok (by simp [behind]) (by assumption) hus) hmeas hroom rfl rfl rfl))
        | enter er =>
          have ht := isTup_of er
          k_steps
          refine' LsCut.intro (by assumption) (by assumption) ?h3x1 ?h3x2 ?h3x3 ?h3x4 hoff ?l3x1 ?l3x2 (hsc.append (.cons _ _ .nil)) (rfl) rfl
          case h3x1 => (repeat (first | exact List.Mem.head _ | refine List.Mem.tail _ ?_))
          case h3x2 => (repeat (first | exact List.Mem.head _ | refine List.Mem.tail _ ?_))
          case h3x3 => (repeat (first | exact List.Mem.head _ | refine List.Mem.tail _ ?_))
          case h3x4 => (intro p hp; repeat (first | exact hp | refine List.Mem.tail _ ?_))
          case l3x1 => omega
          case l3x2 => omega
        | _ er =>
          have ht := isTup_of er
          k_steps
          refine' LsCut.intro (by assumption) (by assumption) ?h4x1 ?h4x2 ?h4x3 ?h4x4 hoff ?l4x1 ?l4x2 hsc (rfl) rfl
          case h4x1 => (repeat (first | exact List.Mem.head _ | refine List.Mem.tail _ ?_))
          case h4x2 => (repeat (first | exact List.Mem.head _ | refine List.Mem.tail _ ?_))
          case h4x3 => (repeat (first | exact List.Mem.head _ | refine List.Mem.tail _ ?_))
          case h4x4 => (intro p hp; repeat (first | exact hp | refine List.Mem.tail _ ?_))
          case l4x1 => omega
          case l4x2 => omega
      case cutB =>
        clear hrow
        intro h' tk' B rest3 us2 nb sc2 F' N' off3 sub3 hB3 hi3 hb3 he3
        k_sweep
        have hti := isTup_of hnm
        subst hvr
        k_steps
        rename News _ _ _ _ => N9
        rename Apart _ _ => hrn
        rename IntsAre _ (Row.targets _) => hits
        rename List Value => its
        obtain ⟨N3, off4⟩ := off_src N9 hrn off3
        clear N9 hrn
        have hitl := hits.length
        refine' for_list (x := Str.ofString "spot") (J := LsL _ _ _ _ _ _ (_ :: rest3) pe' row sc _) ?zh ?zx ?zp ?zF N3 ?zJ ?zS ?turn2 ?done2
        case zh => rfl
        case zx => rfl
        case zp => rfl
        case zF => assumption
        case zJ => exact lsl_start hgr hsc off4 ⟨_, .inr (.head _)⟩ sub3.cons hpe1
        case zS => exact lsl_src
        case turn2 =>
          intro k v m₁ nx hp2 tk I2 oI2 hv2 hJ off2 F' N'
          k_sweep
          obtain ⟨ps, n2', rest4, e1, off4, sub4, src4, pa4, o', e5⟩ := hJ
          subst e1
          subst e5
          have q1 := neN (off2 _ (List.Mem.head _))
          have q2 := neN (off2 _ (List.Mem.tail _ (List.Mem.head _)))
          have off5 : Off [I2, _, _] rest4 := Off.more off4 fun p hp => off2 p (.tail _ (.tail _ hp))
          obtain ⟨tv, tt, e6, hv3⟩ := ints_get hits hv2
          subst e6
          have hk : k < its.length := (List.getElem?_eq_some_iff.mp hv2).1
          have hpl4 := pa4.length
          have hps : ps.length ≤ 100 := by
            rw [hpl4, List.length_append, handed, List.length_map, List.length_take]
            omega
          show wpAny _ _ _ _ _ _
          k_fold
          k_steps
          all_goals (
            rename News _ _ _ _ => N9
            first
              | (refine TurnEnd.intro _ (by assumption) (newsRot3b N9) (allNe (allNe (fun p hp => ?_) q2) q1) ?_
                 · rcases List.mem_append.mp hp with hp | hp
                   · simp only [List.mem_cons, List.not_mem_nil, or_false] at hp
                     rcases hp with rfl | rfl <;> k_ne
                   · exact off5.ne (.head _) p hp
                 · refine lsl_next _ off4 ((Off.nil.new (lt2 ?_ ?_)).new (lt2 ?_ ?_)) sub4 src4 pa4 hv3 (.head _) (.tail _ (.head _)) (by rw [nextSc_fork (by assumption)]; exact .nil)
                   all_goals omega)
              | (refine TurnEnd.intro _ (by assumption) (newsRot3a N9) (allNe (allNe (fun p hp => ?_) q2) q1) ?_
                 · rcases List.mem_append.mp hp with hp | hp
                   · simp only [List.mem_cons, List.not_mem_nil, or_false] at hp
                     subst hp
                     k_ne
                   · exact off5.ne (.head _) p hp
                 · refine lsl_next _ off4 (Off.nil.new (lt2 ?_ ?_)) sub4 src4 pa4 hv3 (.head _) (.tail _ (sub4 _ (.tail _ (sub3 _ hmo)))) (by rw [nextSc_no (by assumption)]; exact hsc)
                   all_goals omega))
        case done2 =>
          intro hp2 tk m₁ nx F' N' hJ
          k_sweep
          obtain ⟨ps, n2', rest4, e1, off4, sub4, src4, pa4, o', e5⟩ := hJ
          subst e1
          subst e5
          have hpl4 := pa4.length
          have hps : ps.length ≤ 100 := by
            rw [hpl4, List.length_append, handed, List.length_map, List.length_take]
            omega
          have hmb4 := sub4 _ (.tail _ hB3)
          have sub5 := sub3.cons.trans sub4
          have ok3 := okRow_of hb3 he3
          k_steps
          all_goals (
            rename News _ _ _ _ => N9
            first
              | (refine WhEnd.nextE _ (by assumption) (newsRot3 N9) (ls_turn (rest := rest) (off4.new (lt2 ?_ ?_)) sub5.cons (by assumption) hvn hkn hmo hsc ((pa4.mono (fun _ _ h => .tail _ h) fun _ _ h => h.mono fun _ _ h => .tail _ h).append (.cons (.head _) ⟨_, _, _, rfl, .tail _ hmb4, hi3⟩ .nil)) hinv hno hgr hkr1 ?_ htwo ok3 hmeas hroom rfl rfl rfl)
                 all_goals first | omega | (rw [hitl, List.take_length, falls_pe hb3 (falls_of he3 (by assumption))]))
              | (refine WhEnd.nextE _ (by assumption) N9 (ls_turn (rest := rest) off4 sub5 (by assumption) hvn hkn hmo hsc pa4 hinv hno hgr hkr1 ?_ htwo ok3 hmeas hroom rfl rfl rfl)
                 rw [hitl, List.take_length, nofall_pe (nofalls_of (by assumption)), List.append_nil]))
    · have hbb : (valueAt kvs ad).isSome = true := by rw [hvs]; rfl
      k_steps
      all_goals first
        | (exfalso; simp at *; done)
        | (show WhEnd _ _ _ _ _ _ _ _
           rename News _ _ _ _ => N9
           refine WhEnd.contE _ (by assumption) (newsDrop1 N9) (ls_same hoff hdi hkn hpe1 hinv hmeas hroom hm0 (by assumption) rfl rfl rfl))
        | (show Q _ _
           exact h _ _ _ (back G (by assumption)) (false_good (ls_differ hinv hm0 (by assumption))))
end
open PySem PySem.W PySem.Calls PyProof.Rows
set_option Elab.async false
set_option maxRecDepth 100000
set_option maxHeartbeats 2000000
section
theorem FaultsAre.led {S : Addr → Obj → Prop} {vs : List Value} {fs : List (Int × Str)} (h : FaultsAre S vs fs) : ∃ l : List (Addr × Obj), (∀ p ∈ l, S p.1 p.2) ∧ FaultsAre (InL l) vs fs := by
  induction h with
  | nil => exact ⟨[], (fun _ h => nomatch h), .nil⟩
  | @cons a i t x u vs fs e _ ih =>
    obtain ⟨l, h1, h2⟩ := ih
    refine ⟨(a, tupOf [.int i t, .str x u]) :: l, fun p hp => ?_, .cons (.head _) (h2.mono fun _ _ _ h => .tail _ h)⟩
    rcases List.mem_cons.mp hp with rfl | hp
    · exact e
    · exact h1 p hp
theorem newOne {s : Shared} {h₀ h' : Heap} {L a : Addr} {o : Obj} {m : Str → Option Value} (F : Fr h₀ L s.heap m) (hg : h'.get? a = some o) (hn : s.heap.get? a = none) : h'.get? a = some o ∧ a ≠ L ∧ h₀.get? a = none := by
  refine ⟨hg, fun e => ?_, ?_⟩
  · obtain ⟨oL, _, _, hL, _⟩ := F.ns
    rw [e, hL] at hn
    cases hn
  · cases q : h₀.get? a with
    | none => rfl
    | some o => rw [F.keep _ _ q] at hn; cases hn
section
variable {w : World} {A : Around} {E : Value → Shared → Prop} {s : Shared}
theorem tf_use {mean : ExcName → Option Value} {mg mb : Str → Option Value} {h₀ : Heap} {L : Addr} {m : Str → Option Value} {news : List (Addr × Obj)} {c : Addr} {vs : List Value} {rows : List Row} {Q : Value → Shared → Prop}
    (hh : A.handled = none) (hdp : A.depth + 10 < recursionLimit) (F : Fr h₀ L s.heap m) (X₀ : (hd.heap_39 w.params).In h₀) (T₀ : Top hd.view_39 (looseW hd.view_39 []) mean mg mb h₀) (N : News h₀ L s.heap news)
    (hc : h₀.IsList c vs.toArray) (hr : RowsAt (At h₀) vs rows) (hl : rows.length ≤ 1000)
    (h : ∀ r fs n h' tk₁ rest', Fr h₀ L h' m → News h₀ L h' ((r, listOf (List.toArray fs) n) :: rest') → Apart r rest' → FaultsAre (InL rest') fs (due rows) → Q (.ref r) { s with heap := h', toks := tk₁ }) :
    wpAny (model PySem.Challenge.rw_nn0292_01.row.prog w) A (call (.ref 42) [.ref c]) Q E s := by
  obtain ⟨hd, d, fr, gd, un⟩ := A
  obtain rfl : hd = none := hh
  have hc' : s.heap.IsList c vs.toArray := let ⟨o, ho, r⟩ := hc; ⟨o, F.keep _ _ ho, r⟩
  refine wpAny_mono (tf_core hdp F.keep X₀ T₀ hc' (hr.mono fun a o _ e => F.keep a o e) hl fun r fs n h' tk₁ R hg hn hf => ?_) (fun _ _ x => x) fun _ _ x => x.elim
  obtain ⟨l, h1, h2⟩ := hf.led
  have F' := R.fr F fun _ q => nomatch q
  have hap : ∀ p ∈ l, p.1 ≠ r ∨ p = (r, listOf (List.toArray fs) n) := fun p hp => by
    by_cases e : p.1 = r
    · refine .inr ?_
      have := (h1 p hp).1
      rw [e, hg] at this
      exact Prod.ext e (Option.some.inj this).symm
    · exact .inl e
  have hl' : FaultsAre (InL (l.filter fun p => decide (p.1 ≠ r))) fs (due rows) := h2.mono fun a o ho e => by
    refine List.mem_filter.mpr ⟨e, ?_⟩
    rcases hap _ e with e' | e'
    · simpa using e'
    · have e2 : o = listOf (List.toArray fs) n := congrArg Prod.snd e'
      rw [e2] at ho
      exact absurd ho (show Value.type "list" ≠ Value.type "tuple" by decide)
  refine h r fs n h' tk₁ (l.filter fun p => decide (p.1 ≠ r)) F' (fun p hp => ?_) (fun p hp => by simpa using (List.mem_filter.mp hp).2) hl'
  rcases List.mem_cons.mp hp with rfl | hp
  · exact newOne F hg hn
  · have := h1 p (List.mem_filter.mp hp).1
    exact newOne F this.1 this.2
theorem sf_use {mean : ExcName → Option Value} {mg mb : Str → Option Value} {h₀ : Heap} {L : Addr} {m : Str → Option Value} {news : List (Addr × Obj)} {c : Addr} {vs : List Value} {rows : List Row} {Q : Value → Shared → Prop}
    (hh : A.handled = none) (hdp : A.depth + 10 < recursionLimit) (hun : A.units ≤ 4000) (F : Fr h₀ L s.heap m) (X₀ : (hd.heap_39 w.params).In h₀) (T₀ : Top hd.view_39 (looseW hd.view_39 []) mean mg mb h₀) (N : News h₀ L s.heap news)
    (hc : h₀.IsList c vs.toArray) (hr : RowsAt (At h₀) vs rows) (hl : rows.length ≤ 12) (hd : due rows = [])
    (h : ∀ r out n h' tk₁, Fr h₀ L h' m → News h₀ L h' [(r, listOf (List.toArray out) n)] → (out = [] ↔ Good rows) → Q (.ref r) { s with heap := h', toks := tk₁ }) :
    wpAny (model PySem.Challenge.rw_nn0292_01.row.prog w) A (call (.ref 49) [.ref c]) Q E s := by
  obtain ⟨hd', d, fr, gd, un⟩ := A
  obtain rfl : hd' = none := hh
  have hc' : s.heap.IsList c vs.toArray := let ⟨o, ho, r⟩ := hc; ⟨o, F.keep _ _ ho, r⟩
  refine wpAny_mono (sf_core hdp hun F.keep X₀ T₀ hc' (hr.mono fun a o _ e => F.keep a o e) hl hd fun r out n h' tk₁ R hg hn hgo => ?_) (fun _ _ x => x) fun _ _ x => x.elim
  refine h r out n h' tk₁ (R.fr F fun _ q => nomatch q) (fun p hp => ?_) hgo
  rw [List.mem_singleton.mp hp]
  exact newOne F hg hn
end
theorem badAt_len (n i : Nat) (ts : List Int) : (badAt n i ts).length ≤ ts.length := by
  induction ts with
  | nil => simp [badAt]
  | cons t ts ih =>
    have e : badAt n i (t :: ts) = badOne n i t ++ badAt n i ts := by simp [badAt]
    rw [e, List.length_append, List.length_cons]
    have : (badOne n i t).length ≤ 1 := by unfold badOne; split <;> simp
    omega
theorem tfTo_len {rows : List Row} (h : ∀ i, (rows.getD i .set).targets.length ≤ 2) : ∀ k, (tfTo rows k).length ≤ 2 * k
  | 0 => by simp [tfTo]
  | k + 1 => by
    rw [tfTo_succ, List.length_append]
    have h1 := tfTo_len h k
    have h2 := badAt_len rows.length k (rows.getD k .set).targets
    have h3 := h k
    omega
theorem due_len {S : Addr → Obj → Prop} {vs : List Value} {rows : List Row} (hr : RowsAt S vs rows) : (due rows).length ≤ 2 * rows.length + 1 := by
  unfold due
  rw [List.length_append]
  have h1 := tfTo_len (rows := rows) (fun i => by
    by_cases hi : i < rows.length
    · obtain ⟨v, _, hrow⟩ := hr.at hi
      have e : rows.getD i .set = rows[i] := by simp [List.getD, List.getElem?_eq_getElem hi]
      rw [e]
      exact hrow.two
    · have e : rows.getD i .set = .set := by simp [List.getD, List.getElem?_eq_none (Nat.le_of_not_lt hi)]
      rw [e]
      simp [Row.targets]) rows.length
  have h2 : (endFault rows).length ≤ 1 := by unfold endFault; split <;> simp
  omega
theorem cc_core {w : World} {mean : ExcName → Option Value} {mg mb : Str → Option Value} {dp un : Nat} {fr : Option (List Env)} {gd : Option (List Code)} {s : Shared} {h₀ : Heap}
    {c : Addr} {vs : List Value} {rows : List Row} {Q : Value → Shared → Prop}
    (hdp : dp + 20 < recursionLimit) (hun : un ≤ 3000)
    (hk₀ : ∀ b o, h₀.get? b = some o → s.heap.get? b = some o) (X₀ : (hd.heap_39 w.params).In h₀) (T₀ : Top hd.view_39 (looseW hd.view_39 []) mean mg mb h₀)
    (hc : s.heap.IsList c vs.toArray) (hr : RowsAt (At s.heap) vs rows) (hl : rows.length ≤ 12)
    (h : ∀ r out n h' tk₁, Ret s [] { s with heap := h', toks := tk₁ } → h'.get? r = some (listOf (List.toArray out) n) → s.heap.get? r = none → (due rows ≠ [] → FaultsAre (fun a o => h'.get? a = some o ∧ s.heap.get? a = none) out (due rows)) → (due rows = [] → (out = [] ↔ Good rows)) → Q (.ref r) { s with heap := h', toks := tk₁ }) :
    wpAny (model PySem.Challenge.rw_nn0292_01.row.prog w) (Ar dp un fr gd) (call (.ref 56) [.ref c]) Q (fun _ _ => False) s := by
  w_top off
  k_with_none
  (k_with "call builtin:len" => (k_here; (with_reducible show wpAny _ _ (call (Value.builtin "len") [Value.ref _]) _ _ _); k_dflt (refine' len_list (News.isList ?hl_z280 ?hm_z280) ?hf_z280 ?_; (case hl_z280 => k_asm); (case hm_z280 => k_mem)); (case hf_z280 => (simp only [List.size_toArray]; omega)); (try simp only [List.size_toArray])))
  (k_with "call builtin:len" => (k_here; (with_reducible show wpAny _ _ (call (Value.builtin "len") [Value.ref _]) _ _ _); k_dflt (refine' len_list (News.isList ?hl_z281 ?hm_z281) ?hf_z281 ?_; (case hl_z281 => k_asm); (case hm_z281 => k_mem)); (case hf_z281 => (simp only [List.size_toArray]; omega)); (try simp only [List.size_toArray])))
  (k_with "call builtin:len" => (k_here; (with_reducible show wpAny _ _ (call (Value.builtin "len") [Value.ref _]) _ _ _); k_dflt (refine' len_list (News.isList ?hl_z282 ?hm_z282) ?hf_z282 ?_; (case hl_z282 => k_asm); (case hm_z282 => k_mem)); (case hf_z282 => (simp only [List.size_toArray]; omega)); (try simp only [List.size_toArray])))
  (k_with "call builtin:len" => (k_here; (with_reducible show wpAny _ _ (call (Value.builtin "len") [Value.ref _]) _ _ _); k_dflt (refine' len_list (News.isList ?hl_z283 ?hm_z283) ?hf_z283 ?_; (case hl_z283 => k_asm); (case hm_z283 => k_mem)); (case hf_z283 => (simp only [List.size_toArray]; omega)); (try simp only [List.size_toArray])))
  (k_with "call builtin:len" => (k_here; (with_reducible show wpAny _ _ (call (Value.builtin "len") [Value.ref _]) _ _ _); k_dflt (refine' len_list (News.isList ?hl_z284 ?hm_z284) ?hf_z284 ?_; (case hl_z284 => k_asm); (case hm_z284 => k_mem)); (case hf_z284 => (simp only [List.size_toArray]; omega)); (try simp only [List.size_toArray])))
  (k_with "call builtin:len" => (k_here; (with_reducible show wpAny _ _ (call (Value.builtin "len") [Value.ref _]) _ _ _); k_dflt (refine' len_list (News.isList ?hl_z285 ?hm_z285) ?hf_z285 ?_; (case hl_z285 => k_asm); (case hm_z285 => k_mem)); (case hf_z285 => (simp only [List.size_toArray]; omega)); (try simp only [List.size_toArray])))
  (k_with "call ref" => (k_here; (with_reducible show wpAny _ _ (call (Value.ref 42) [_]) _ _ _); (with_unfolding_all refine' tf_use ?hh_z286 ?hdp_z286 ?F_z286 ?X_z286 ?T_z286 ?N_z286 ?hc_z286 ?hr_z286 ?hl_z286 ?_); (case hh_z286 => with_unfolding_all exact rfl); (case hdp_z286 => ((try simp only [depth_under_make, depth_under_kw, depth_in1, depth_deeper]); (try dsimp only [Ar]); omega)); (case F_z286 => k_asm); (case X_z286 => k_asm); (case T_z286 => k_asm); (case N_z286 => first | k_asm | exact News.nil); (case hc_z286 => assumption); (case hr_z286 => assumption); (case hl_z286 => omega); k_whole; intro r_z286 fs_z286 n_z286 h'_z286 tk₁_z286 rest'_z286 F'_z286 N'_z286 hap_z286 hfa_z286; (have hfl_z286 := hfa_z286.length); (try k_sweep)))
  (k_with "call ref" => (k_here; (with_reducible show wpAny _ _ (call (Value.ref 42) [_]) _ _ _); (with_unfolding_all refine' tf_use ?hh_z287 ?hdp_z287 ?F_z287 ?X_z287 ?T_z287 ?N_z287 ?hc_z287 ?hr_z287 ?hl_z287 ?_); (case hh_z287 => with_unfolding_all exact rfl); (case hdp_z287 => ((try simp only [depth_under_make, depth_under_kw, depth_in1, depth_deeper]); (try dsimp only [Ar]); omega)); (case F_z287 => k_asm); (case X_z287 => k_asm); (case T_z287 => k_asm); (case N_z287 => first | k_asm | exact News.nil); (case hc_z287 => assumption); (case hr_z287 => assumption); (case hl_z287 => omega); k_whole; intro r_z287 fs_z287 n_z287 h'_z287 tk₁_z287 rest'_z287 F'_z287 N'_z287 hap_z287 hfa_z287; (have hfl_z287 := hfa_z287.length); (try k_sweep)))
  (k_with "call ref" => (k_here; (with_reducible show wpAny _ _ (call (Value.ref 42) [_]) _ _ _); (with_unfolding_all refine' tf_use ?hh_z288 ?hdp_z288 ?F_z288 ?X_z288 ?T_z288 ?N_z288 ?hc_z288 ?hr_z288 ?hl_z288 ?_); (case hh_z288 => with_unfolding_all exact rfl); (case hdp_z288 => ((try simp only [depth_under_make, depth_under_kw, depth_in1, depth_deeper]); (try dsimp only [Ar]); omega)); (case F_z288 => k_asm); (case X_z288 => k_asm); (case T_z288 => k_asm); (case N_z288 => first | k_asm | exact News.nil); (case hc_z288 => assumption); (case hr_z288 => assumption); (case hl_z288 => omega); k_whole; intro r_z288 fs_z288 n_z288 h'_z288 tk₁_z288 rest'_z288 F'_z288 N'_z288 hap_z288 hfa_z288; (have hfl_z288 := hfa_z288.length); (try k_sweep)))
  (k_with "call ref" => (k_here; (with_reducible show wpAny _ _ (call (Value.ref 42) [_]) _ _ _); (with_unfolding_all refine' tf_use ?hh_z289 ?hdp_z289 ?F_z289 ?X_z289 ?T_z289 ?N_z289 ?hc_z289 ?hr_z289 ?hl_z289 ?_); (case hh_z289 => with_unfolding_all exact rfl); (case hdp_z289 => ((try simp only [depth_under_make, depth_under_kw, depth_in1, depth_deeper]); (try dsimp only [Ar]); omega)); (case F_z289 => k_asm); (case X_z289 => k_asm); (case T_z289 => k_asm); (case N_z289 => first | k_asm | exact News.nil); (case hc_z289 => assumption); (case hr_z289 => assumption); (case hl_z289 => omega); k_whole; intro r_z289 fs_z289 n_z289 h'_z289 tk₁_z289 rest'_z289 F'_z289 N'_z289 hap_z289 hfa_z289; (have hfl_z289 := hfa_z289.length); (try k_sweep)))
  (k_with "call ref" => (k_here; (with_reducible show wpAny _ _ (call (Value.ref 42) [_]) _ _ _); (with_unfolding_all refine' tf_use ?hh_z290 ?hdp_z290 ?F_z290 ?X_z290 ?T_z290 ?N_z290 ?hc_z290 ?hr_z290 ?hl_z290 ?_); (case hh_z290 => with_unfolding_all exact rfl); (case hdp_z290 => ((try simp only [depth_under_make, depth_under_kw, depth_in1, depth_deeper]); (try dsimp only [Ar]); omega)); (case F_z290 => k_asm); (case X_z290 => k_asm); (case T_z290 => k_asm); (case N_z290 => first | k_asm | exact News.nil); (case hc_z290 => assumption); (case hr_z290 => assumption); (case hl_z290 => omega); k_whole; intro r_z290 fs_z290 n_z290 h'_z290 tk₁_z290 rest'_z290 F'_z290 N'_z290 hap_z290 hfa_z290; (have hfl_z290 := hfa_z290.length); (try k_sweep)))
  (k_with "call ref" => (k_here; (with_reducible show wpAny _ _ (call (Value.ref 42) [_]) _ _ _); (with_unfolding_all refine' tf_use ?hh_z291 ?hdp_z291 ?F_z291 ?X_z291 ?T_z291 ?N_z291 ?hc_z291 ?hr_z291 ?hl_z291 ?_); (case hh_z291 => with_unfolding_all exact rfl); (case hdp_z291 => ((try simp only [depth_under_make, depth_under_kw, depth_in1, depth_deeper]); (try dsimp only [Ar]); omega)); (case F_z291 => k_asm); (case X_z291 => k_asm); (case T_z291 => k_asm); (case N_z291 => first | k_asm | exact News.nil); (case hc_z291 => assumption); (case hr_z291 => assumption); (case hl_z291 => omega); k_whole; intro r_z291 fs_z291 n_z291 h'_z291 tk₁_z291 rest'_z291 F'_z291 N'_z291 hap_z291 hfa_z291; (have hfl_z291 := hfa_z291.length); (try k_sweep)))
  (k_with "call ref" => (k_here; (with_reducible show wpAny _ _ (call (Value.ref 49) [_]) _ _ _); (rename FaultsAre _ _ _ => hfa_z292); (with_unfolding_all refine' sf_use ?hh_z292 ?hdp_z292 ?hun_z292 ?F_z292 ?X_z292 ?T_z292 ?N_z292 ?hc_z292 ?hr_z292 ?hl_z292 ?hd_z292 ?_); (case hh_z292 => with_unfolding_all exact rfl); (case hdp_z292 => ((try simp only [depth_under_make, depth_under_kw, depth_in1, depth_deeper]); (try dsimp only [Ar]); omega)); (case hun_z292 => ((try simp only [units_in1, units_deeper]); (try dsimp only [Ar]); omega)); (case F_z292 => k_asm); (case X_z292 => k_asm); (case T_z292 => k_asm); (case N_z292 => k_asm); (case hc_z292 => assumption); (case hr_z292 => assumption); (case hl_z292 => omega); (case hd_z292 => exact List.eq_nil_of_length_eq_zero (by omega)); k_whole; intro r_z292 out_z292 n_z292 h'_z292 tk₁_z292 F'_z292 N'_z292 hgo_z292; (try k_sweep)))
  (k_with "call ref" => (k_here; (with_reducible show wpAny _ _ (call (Value.ref 49) [_]) _ _ _); (rename FaultsAre _ _ _ => hfa_z293); (with_unfolding_all refine' sf_use ?hh_z293 ?hdp_z293 ?hun_z293 ?F_z293 ?X_z293 ?T_z293 ?N_z293 ?hc_z293 ?hr_z293 ?hl_z293 ?hd_z293 ?_); (case hh_z293 => with_unfolding_all exact rfl); (case hdp_z293 => ((try simp only [depth_under_make, depth_under_kw, depth_in1, depth_deeper]); (try dsimp only [Ar]); omega)); (case hun_z293 => ((try simp only [units_in1, units_deeper]); (try dsimp only [Ar]); omega)); (case F_z293 => k_asm); (case X_z293 => k_asm); (case T_z293 => k_asm); (case N_z293 => k_asm); (case hc_z293 => assumption); (case hr_z293 => assumption); (case hl_z293 => omega); (case hd_z293 => exact List.eq_nil_of_length_eq_zero (by omega)); k_whole; intro r_z293 out_z293 n_z293 h'_z293 tk₁_z293 F'_z293 N'_z293 hgo_z293; (try k_sweep)))
  (k_with "call ref" => (k_here; (with_reducible show wpAny _ _ (call (Value.ref 49) [_]) _ _ _); (rename FaultsAre _ _ _ => hfa_z294); (with_unfolding_all refine' sf_use ?hh_z294 ?hdp_z294 ?hun_z294 ?F_z294 ?X_z294 ?T_z294 ?N_z294 ?hc_z294 ?hr_z294 ?hl_z294 ?hd_z294 ?_); (case hh_z294 => with_unfolding_all exact rfl); (case hdp_z294 => ((try simp only [depth_under_make, depth_under_kw, depth_in1, depth_deeper]); (try dsimp only [Ar]); omega)); (case hun_z294 => ((try simp only [units_in1, units_deeper]); (try dsimp only [Ar]); omega)); (case F_z294 => k_asm); (case X_z294 => k_asm); (case T_z294 => k_asm); (case N_z294 => k_asm); (case hc_z294 => assumption); (case hr_z294 => assumption); (case hl_z294 => omega); (case hd_z294 => exact List.eq_nil_of_length_eq_zero (by omega)); k_whole; intro r_z294 out_z294 n_z294 h'_z294 tk₁_z294 F'_z294 N'_z294 hgo_z294; (try k_sweep)))
  (k_with "call ref" => (k_here; (with_reducible show wpAny _ _ (call (Value.ref 49) [_]) _ _ _); (rename FaultsAre _ _ _ => hfa_z295); (with_unfolding_all refine' sf_use ?hh_z295 ?hdp_z295 ?hun_z295 ?F_z295 ?X_z295 ?T_z295 ?N_z295 ?hc_z295 ?hr_z295 ?hl_z295 ?hd_z295 ?_); (case hh_z295 => with_unfolding_all exact rfl); (case hdp_z295 => ((try simp only [depth_under_make, depth_under_kw, depth_in1, depth_deeper]); (try dsimp only [Ar]); omega)); (case hun_z295 => ((try simp only [units_in1, units_deeper]); (try dsimp only [Ar]); omega)); (case F_z295 => k_asm); (case X_z295 => k_asm); (case T_z295 => k_asm); (case N_z295 => k_asm); (case hc_z295 => assumption); (case hr_z295 => assumption); (case hl_z295 => omega); (case hd_z295 => exact List.eq_nil_of_length_eq_zero (by omega)); k_whole; intro r_z295 out_z295 n_z295 h'_z295 tk₁_z295 F'_z295 N'_z295 hgo_z295; (try k_sweep)))
  (k_with "call ref" => (k_here; (with_reducible show wpAny _ _ (call (Value.ref 49) [_]) _ _ _); (rename FaultsAre _ _ _ => hfa_z296); (with_unfolding_all refine' sf_use ?hh_z296 ?hdp_z296 ?hun_z296 ?F_z296 ?X_z296 ?T_z296 ?N_z296 ?hc_z296 ?hr_z296 ?hl_z296 ?hd_z296 ?_); (case hh_z296 => with_unfolding_all exact rfl); (case hdp_z296 => ((try simp only [depth_under_make, depth_under_kw, depth_in1, depth_deeper]); (try dsimp only [Ar]); omega)); (case hun_z296 => ((try simp only [units_in1, units_deeper]); (try dsimp only [Ar]); omega)); (case F_z296 => k_asm); (case X_z296 => k_asm); (case T_z296 => k_asm); (case N_z296 => k_asm); (case hc_z296 => assumption); (case hr_z296 => assumption); (case hl_z296 => omega); (case hd_z296 => exact List.eq_nil_of_length_eq_zero (by omega)); k_whole; intro r_z296 out_z296 n_z296 h'_z296 tk₁_z296 F'_z296 N'_z296 hgo_z296; (try k_sweep)))
  (k_with "call ref" => (k_here; (with_reducible show wpAny _ _ (call (Value.ref 49) [_]) _ _ _); (rename FaultsAre _ _ _ => hfa_z297); (with_unfolding_all refine' sf_use ?hh_z297 ?hdp_z297 ?hun_z297 ?F_z297 ?X_z297 ?T_z297 ?N_z297 ?hc_z297 ?hr_z297 ?hl_z297 ?hd_z297 ?_); (case hh_z297 => with_unfolding_all exact rfl); (case hdp_z297 => ((try simp only [depth_under_make, depth_under_kw, depth_in1, depth_deeper]); (try dsimp only [Ar]); omega)); (case hun_z297 => ((try simp only [units_in1, units_deeper]); (try dsimp only [Ar]); omega)); (case F_z297 => k_asm); (case X_z297 => k_asm); (case T_z297 => k_asm); (case N_z297 => k_asm); (case hc_z297 => assumption); (case hr_z297 => assumption); (case hl_z297 => omega); (case hd_z297 => exact List.eq_nil_of_length_eq_zero (by omega)); k_whole; intro r_z297 out_z297 n_z297 h'_z297 tk₁_z297 F'_z297 N'_z297 hgo_z297; (try k_sweep)))
  have _hx : (PySem.Challenge.rw_nn0292_01 = PySem.Challenge.rw_nn0292_01) ∧ (Mine.hd.heap_39 = Mine.hd.heap_39) := by k_fill; exact ⟨rfl, rfl⟩
  refine' enter [] [(Str.ofString "code", .ref c)] hk₀ X₀ T₀ (by simp) ?k6 ?k7 ?k8 ?k9 ?kB ?_ ?c2 ?c3 ?c4 ?c5
  case k6 => k_is
  case k7 => k_is
  case k8 => (show dp < recursionLimit; omega)
  case k9 => exact BindsTo.of_eq rfl
  case c5 => decide
  case kB => exact locs rfl
  case c2 => exact rfl
  case c3 => exact rfl
  case c4 => exact rfl
  intro g L' h₁ tk₀ G F N X T
  try dsimp only
  k_fold
  replace G : ∀ b o, s.heap.get? b = some o → b ∉ [] → g.get? b = some o := G
  have hcg : g.IsList c vs.toArray := by
    obtain ⟨o, ho, r⟩ := hc
    exact ⟨o, G _ _ ho (by simp), r⟩
  have hrg : RowsAt (At g) vs rows := hr.mono fun a o _ e => G a o e (by simp)
  have hln := hrg.1
  have hdl := due_len hrg
  clear hk₀ X₀ T₀ hc hr
  k_steps
  all_goals (show Q _ _)
  · rename News _ _ _ _ => N8
    rename FaultsAre _ _ _ => hfa
    have hN := fresh_of G N8 (.head _) (by simp)
    refine h _ _ _ _ _ (back G (by assumption)) hN.1 hN.2 (fun _ => hfa.mono fun a o _ e => fresh_of G N8 (.tail _ e) (by simp)) fun e => ?_
    have h0 : (due rows).length = 0 := by rw [e]; rfl
    exfalso; omega
  · rename News _ _ _ _ => N8
    rename FaultsAre _ _ _ => hfa
    rename (_ = [] ↔ Good rows) => hgo
    have hN := fresh_of G N8 (.head _) (by simp)
    have hd0 : due rows = [] := List.eq_nil_of_length_eq_zero (by omega)
    exact h _ _ _ _ _ (back G (by assumption)) hN.1 hN.2 (fun e => absurd hd0 e) fun _ => hgo
end
open PySem PySem.W PySem.Calls PyProof.Rows
set_option Elab.async false
set_option maxRecDepth 100000
set_option maxHeartbeats 2000000
section
theorem RowAt.led {S : Addr → Obj → Prop} {v : Value} {row : Row} (h : RowAt S v row) : ∃ l : List (Addr × Obj), (∀ p ∈ l, S p.1 p.2) ∧ RowAt (InL l) v row := by
  have one : ∀ {a o}, S a o → ∀ p ∈ [(a, o)], S p.1 p.2 := fun e p hp => by rw [List.mem_singleton.mp hp]; exact e
  cases h with
  | set e => exact ⟨_, one e, .set (.head _)⟩
  | jump e => exact ⟨_, one e, .jump (.head _)⟩
  | unls e => exact ⟨_, one e, .unls (.head _)⟩
  | mtch e => exact ⟨_, one e, .mtch (.head _)⟩
  | again e => exact ⟨_, one e, .again (.head _)⟩
  | enter e => exact ⟨_, one e, .enter (.head _)⟩
  | leave e => exact ⟨_, one e, .leave (.head _)⟩
  | ende e => exact ⟨_, one e, .ende (.head _)⟩
  | ret e => exact ⟨_, one e, .ret (.head _)⟩
  | join e => exact ⟨_, one e, .join (.head _)⟩
  | @fork a t b x vs ts e e2 hi hl =>
    refine ⟨[(a, tupOf [.str (Str.ofString "fork") t, .ref b, x]), (b, tupOf vs)], fun p hp => ?_, .fork (.head _) (.tail _ (.head _)) hi hl⟩
    rcases List.mem_cons.mp hp with rfl | hp
    · exact e
    · rw [List.mem_singleton.mp hp]; exact e2
theorem RowsAt.snoc {S : Addr → Obj → Prop} {vs : List Value} {rows : List Row} {v : Value} {row : Row} (h : RowsAt S vs rows) (hr : RowAt S v row) : RowsAt S (vs ++ [v]) (rows ++ [row]) := by
  refine ⟨by simp [h.1], fun i v' r' hv hr' => ?_⟩
  by_cases hi : i < vs.length
  · rw [List.getElem?_append_left hi] at hv
    rw [List.getElem?_append_left (by rw [← h.1]; exact hi)] at hr'
    exact h.2 i _ _ hv hr'
  · have hl : i < (vs ++ [v]).length := (List.getElem?_eq_some_iff.mp hv).1
    rw [List.length_append, List.length_singleton] at hl
    have e : i = vs.length := by omega
    subst e
    have e1 : v' = v := by simpa using hv.symm
    have e2 : r' = row := by rw [h.1] at hr'; simpa using hr'.symm
    subst e1 e2
    exact hr
theorem RowsAt.nil {S : Addr → Obj → Prop} : RowsAt S [] [] := ⟨rfl, fun i v r h => by simp at h⟩
section
variable {w : World} {A : Around} {E : Value → Shared → Prop} {s : Shared}
theorem row_use {mean : ExcName → Option Value} {mg mb : Str → Option Value} {h₀ : Heap} {L : Addr} {m : Str → Option Value} {news rest : List (Addr × Obj)} {gU : Obj → List (Addr × Obj)} {g : Obj → List (Addr × Obj) → List (Addr × Obj)} {xs : List Addr}
    {p c : Addr} {x k : Int} {tx tk : Tok} {n : Nat} {cells : List Value} {ns : List Int} {most : Int} {tm : Tok} {Q : Value → Shared → Prop}
    (hh : A.handled = none) (hdp : A.depth + 10 < recursionLimit)
    (F : Fr h₀ L s.heap m) (X₀ : (hd.heap_39 w.params).In h₀) (T₀ : Top hd.view_39 (looseW hd.view_39 []) mean mg mb h₀)
    (N : News h₀ L s.heap news) (U : UpdF p (listOf #[.int x tx, .int k tk, .ref c] n) news gU) (hoff : Off xs rest) (hT : ∀ o', TailAt rest (gU o') (g o')) (hxs : ∀ y ∈ xs, ∃ o, (y, o) ∈ news)
    (hc : s.heap.IsList c cells.toArray) (hi : IntsAre cells ns) (hne : c ≠ p) (hx : 0 ≤ x) (hk0 : 0 ≤ k) (hk1 : k < 900) (hm0 : 0 < most) (hm1 : most < 100) (hl0 : 0 < ns.length) (hl1 : ns.length ≤ 40)
    (h : ∀ r row x' tx' k' tk' n' h' tk₁ rest', Fr h₀ L h' m → News h₀ L h' (g (listOf #[.int x' tx', .int k' tk', .ref c] n') rest') → Off xs rest' → Sub rest rest' → RowAt (InL rest') r row → 0 ≤ x' → 0 ≤ k' → k' ≤ k + 4 → Q r { s with heap := h', toks := tk₁ }) :
    wpAny (model PySem.Challenge.rw_nn0292_01.row.prog w) A (call (.ref 68) [.ref p, .int most tm]) Q E s := by
  obtain ⟨hd, d, fr, gd, un⟩ := A
  obtain rfl : hd = none := hh
  have hp := N _ (UpdF.mem U)
  refine wpAny_mono (row_core hdp F.keep X₀ T₀ hp.1 hp.2.2 hc hi hne hx hk0 hk1 hm0 hm1 hl0 hl1 fun r x' tx' k' tk' n' h' tk₁ R ho hrow a b e => ?_) (fun _ _ x => x) fun _ _ x => x.elim
  obtain ⟨F', N'⟩ := R.upd ho F N U
  obtain ⟨row, hrow⟩ := hrow
  obtain ⟨l, h1, h2⟩ := hrow.led
  refine h r row x' tx' k' tk' n' h' tk₁ (l ++ rest) F' (fun q hq => ?_) (fun q hq e' => ?_) (fun q hq => List.mem_append_right _ hq) (h2.mono fun _ _ _ e => List.mem_append_left _ e) a b e
  · rcases (hT _).mem _ _ hq with hq | hq
    · rcases List.mem_append.mp hq with hq | hq
      · have := h1 q hq
        exact newOne F this.1 this.2
      · exact N' q ((hT _).tail _ hq)
    · exact N' q hq
  · rcases List.mem_append.mp hq with hq | hq
    · obtain ⟨o, ho'⟩ := hxs _ e'
      have h3 := (N _ ho').1
      rw [(h1 q hq).2] at h3
      cases h3
    · exact hoff q hq e'
end
theorem ints40 {ws : List Value} {l : List Int} (h : IntsAre ws (List.take 40 (l ++ [0]))) : ∃ ns : List Int, IntsAre ws ns ∧ 0 < ns.length ∧ ns.length ≤ 40 :=
  ⟨_, h, by rw [List.length_take, List.length_append, List.length_singleton]; omega, by rw [List.length_take]; omega⟩
/-- the rows that are drawn -/
def RwJ (p c a b : Addr) (oc oa ob : Obj) (kb : Int) (i : Nat) (ys : List Value) (news : List (Addr × Obj)) : Prop :=
  ∃ x tx k tk n rest rows, news = (p, listOf #[.int x tx, .int k tk, .ref c] n) :: (c, oc) :: (a, oa) :: (b, ob) :: rest ∧ Off [p, c, a, b] rest ∧ 0 ≤ x ∧ 0 ≤ k ∧ k ≤ kb + 4 * i ∧ RowsAt (InL rest) ys rows ∧ rows.length = i
theorem rw_start {p c a b : Addr} {oc oa ob : Obj} {kb x k : Int} {tx tk : Tok} {n : Nat} (hx : 0 ≤ x) (hk : 0 ≤ k) (hk' : k ≤ kb) : RwJ p c a b oc oa ob kb 0 [] [(p, listOf #[.int x tx, .int k tk, .ref c] n), (c, oc), (a, oa), (b, ob)] :=
  ⟨x, tx, k, tk, n, [], [], rfl, Off.nil, hx, hk, by omega, .nil, rfl⟩
theorem law_led {h₀ h : Heap} {L : Addr} {p c d e a b : Addr × Obj} (N : News h₀ L h [p, c, d, e, a, b]) : News h₀ L h [p, c, a, b] := fun q hq => N q (by
  simp only [List.mem_cons] at hq ⊢
  rcases hq with h | h | h | h | h <;> first | exact absurd h List.not_mem_nil | simp [h])
theorem rw_next {h₀ h' : Heap} {L I C D p c a b : Addr} {r : Value} {m : Str → Option Value} {s₁ : Shared} {oI oC oc oa ob : Obj} {kb x k : Int} {tx tk : Tok} {n i tk₁ : Nat} {ys : List Value} {rest rest' : List (Addr × Obj)} {rows : List Row} {row : Row} (F : Fr h₀ L h' m)
    (N : News h₀ L h' ((I, oI) :: (C, oC) :: (D, LCg.lst ys) :: (p, listOf #[.int x tx, .int k tk, .ref c] n) :: (c, oc) :: (a, oa) :: (b, ob) :: rest')) (off : Off [I, C, D, p, c, a, b] rest') (sub : Sub rest rest')
    (hp : (@Ne Nat p I) ∧ (@Ne Nat p C) ∧ (@Ne Nat p D)) (hc : (@Ne Nat c I) ∧ (@Ne Nat c C) ∧ (@Ne Nat c D)) (ha : (@Ne Nat a I) ∧ (@Ne Nat a C) ∧ (@Ne Nat a D)) (hb : (@Ne Nat b I) ∧ (@Ne Nat b C) ∧ (@Ne Nat b D))
    (hx : 0 ≤ x) (hk : 0 ≤ k) (hk' : k ≤ kb + 4 * i + 4) (hrow : RowAt (InL rest') r row) (hrows : RowsAt (InL rest) ys rows) (hi : rows.length = i) :
    LCg.CompEnd h₀ L m s₁ I oI C oC D (LCg.lst ys) (fun _ => True) (fun y news' => RwJ p c a b oc oa ob kb (i + 1) (ys ++ [y]) news') r { s₁ with heap := h', toks := tk₁ } := by
  refine LCg.CompEnd.intro F N ((p, listOf #[.int x tx, .int k tk, .ref c] n) :: (c, oc) :: (a, oa) :: (b, ob) :: rest') (fun _ h => h) ⟨hp, hc, ha, hb, LCg.Off3.of fun q hq => ?_⟩ trivial ⟨x, tx, k, tk, n, rest', rows ++ [row], rfl, off.sub ?_, hx, hk, by omega, (hrows.mono fun _ _ _ h => sub _ h).snoc hrow, by simp [hi]⟩
  · have h1 := off q hq
    simp only [List.mem_cons, not_or] at h1
    exact ⟨h1.1, h1.2.1, h1.2.2.1⟩
  · intro x hx
    simp only [List.mem_cons] at hx ⊢
    rcases hx with h | h | h | h | h <;> simp [h]
theorem rw_off {I C D p c a b : Addr} {op oc oa ob : Obj} {rest : List (Addr × Obj)} (h : LCg.Off3 I C D ((p, op) :: (c, oc) :: (a, oa) :: (b, ob) :: rest)) (off : Off [p, c, a, b] rest) :
    ((@Ne Nat p I) ∧ (@Ne Nat p C) ∧ (@Ne Nat p D)) ∧ ((@Ne Nat c I) ∧ (@Ne Nat c C) ∧ (@Ne Nat c D)) ∧ ((@Ne Nat a I) ∧ (@Ne Nat a C) ∧ (@Ne Nat a D)) ∧ ((@Ne Nat b I) ∧ (@Ne Nat b C) ∧ (@Ne Nat b D)) ∧ Off [I, C, D, p, c, a, b] rest := by
  obtain ⟨h1, h2, h3, h4, h5⟩ := h
  refine ⟨h1, h2, h3, h4, fun q hq e => ?_⟩
  have h6 := h5.mem q hq
  have h7 := off q hq
  simp only [List.mem_cons] at e h7
  rcases e with e | e | e | e
  · exact h6.1 e
  · exact h6.2.1 e
  · exact h6.2.2 e
  · exact h7 e
end
open PySem PySem.W PySem.Calls PyProof.Rows
set_option Elab.async false
set_option maxRecDepth 100000
set_option maxHeartbeats 2000000
section
section
variable {prog : Program} {w : World} {A : Around} {E : Value → Shared → Prop} {s : Shared} {h₀ : Heap} {L : Addr} {m : Str → Option Value} {news : List (Addr × Obj)}
theorem cat_lists {l b : Addr} {vs ws : List Value} {Q : Value → Shared → Prop} (F : Fr h₀ L s.heap m) (N : News h₀ L s.heap news) (hl : s.heap.IsList l vs.toArray) (hb : s.heap.IsList b ws.toArray) (hz : vs.length + ws.length ≤ 1000)
    (h : ∀ D h', Fr h₀ L h' m → News h₀ L h' ((D, listOf (List.toArray (vs ++ ws)) 0) :: news) → (∀ q ∈ news, q.1 < D) → Q (.ref D) { s with heap := h' }) : wpAny (model prog w) A (binaryOp .Add (.ref l) (.ref b)) Q E s :=
  add_lists F N hl hb (fun h' F' N' => h _ h' F' N' fun q hq => Heap.lt_size (N q hq).1) (by rw [sizeLine_eq]; omega)

/-- the data of a list of faults -/
def encF (fl : List (Int × Str)) : PyData := .list (fl.map fun p => .tuple [.int p.1, .str p.2])
theorem faults_read {S : Addr → Obj → Prop} {h : Heap} (k : ∀ a o, S a o → h.get? a = some o) {vs : List Value} {fl : List (Int × Str)} (hf : FaultsAre S vs fl) : ∃ as, ReadsAll h vs (fl.map fun p => .tuple [.int p.1, .str p.2]) as := by
  induction hf with
  | nil => exact ⟨[], .nil⟩
  | @cons a i t x u vs fl e _ ih =>
    obtain ⟨as, ih⟩ := ih
    exact ⟨_, .cons (reads_tuple_at (k _ _ e) rfl rfl (.cons (.int i t) (.cons (.str x u) .nil))) ih⟩
theorem due_words (rows : List Row) : ∀ p ∈ due rows, p.2 = Str.ofString "bad_target" ∨ p.2 = Str.ofString "no_end" := by
  intro p hp
  unfold due at hp
  rcases List.mem_append.mp hp with hp | hp
  · unfold tfTo badAt at hp
    obtain ⟨i, _, hp⟩ := List.mem_flatMap.mp hp
    obtain ⟨t, _, hp⟩ := List.mem_flatMap.mp hp
    unfold badOne at hp
    split at hp
    · rw [List.mem_singleton.mp hp]; exact .inl rfl
    · cases hp
  · unfold endFault at hp
    split at hp
    · rw [List.mem_singleton.mp hp]; exact .inr rfl
    · cases hp
theorem encF_shaped {fl : List (Int × Str)} (h : ∀ p ∈ fl, p.2 = Str.ofString "bad_target" ∨ p.2 = Str.ofString "no_end") : SeqAt.shaped (encF fl) = true := by
  have h1 : ∀ fl : List (Int × Str), (∀ p ∈ fl, p.2 = Str.ofString "bad_target" ∨ p.2 = Str.ofString "no_end") → PyData.canLayAll0 (fl.map fun p => .tuple [.int p.1, .str p.2]) = true := by
    intro fl
    induction fl with
    | nil => intro _; rfl
    | cons p fl ih =>
      intro h
      have hp : PyData.strOk p.2 = true := by
        rcases h p (.head _) with e | e <;> rw [e] <;> decide +kernel
      simp [PyData.canLayAll0, PyData.canLay0, hp, ih fun q hq => h q (.tail _ hq)]
  have h2 : ∀ fl : List (Int × Str), PyData.depthAll (fl.map fun p => .tuple [.int p.1, .str p.2]) ≤ 2 := by
    intro fl
    induction fl with
    | nil => simp [PyData.depthAll]
    | cons p fl ih => simp [PyData.depthAll, PyData.depth] at ih ⊢; omega
  have h3 := h2 fl
  simp only [encF, SeqAt.shaped, PyData.canLay0, h1 fl h, PyData.depth, Bool.true_and, decide_eq_true_eq]
  omega
theorem encF_eqv (fl : List (Int × Str)) : PyData.eqv (encF fl) (encF fl) = true := by
  unfold encF
  induction fl with
  | nil => simp [PyData.eqv, PyData.eqvAll]
  | cons p fl ih => simp [PyData.eqv, PyData.eqvAll] at ih ⊢; exact ih
/-- two lists of the same faults are equal -/
theorem eq_faults {a b : Addr} {xs ys : List Value} {n k : Nat} {rows : List Row} {S : Addr → Obj → Prop} {Q : Value → Shared → Prop} (ha : s.heap.get? a = some (listOf (List.toArray xs) n)) (hb : s.heap.get? b = some (listOf (List.toArray ys) k)) (hS : ∀ a o, S a o → s.heap.get? a = some o)
    (hx : FaultsAre S xs (due rows)) (hy : FaultsAre S ys (due rows)) (hu : A.units + 64 < cLine) (h : Q (.bool true) s) : wpAny (model prog w) A (compareOp .Eq (.ref a) (.ref b)) Q E s := by
  obtain ⟨as, ra⟩ := faults_read hS hx
  obtain ⟨bs, rb⟩ := faults_read hS hy
  have sh := encF_shaped (due_words rows)
  exact eq_dataH (reads_list_at ha rfl rfl ra) (reads_list_at hb rfl rfl rb) sh sh hu (by
    have e := encF_eqv (due rows)
    unfold encF at e
    rw [e]; exact h)

def jwords : List Str := [Str.ofString "jump", Str.ofString "end", Str.ofString "return"]
theorem falls_words (row : Row) : (!(jwords.any (· == row.name))) = row.falls := by
  cases row <;> simp only [Row.name, Row.falls, jwords] <;> decide +kernel
theorem notin_words3 {l : Addr} {n : Nat} {row : Row} {t t1 t2 t3 : Tok} {Q : Value → Shared → Prop} (hl : s.heap.get? l = some (listOf #[.str (Str.ofString "jump") t1, .str (Str.ofString "end") t2, .str (Str.ofString "return") t3] n)) (h : Q (.bool row.falls) s) :
    wpAny (model prog w) A (compareOp .NotIn (.str row.name t) (.ref l)) Q E s :=
  notin_list_strs (vs := [.str (Str.ofString "jump") t1, .str (Str.ofString "end") t2, .str (Str.ofString "return") t3]) (ys := jwords) ⟨_, hl, rfl, _, rfl⟩ (.cons _ _ (.cons _ _ (.cons _ _ .nil))) (by rw [falls_words]; exact h)
end
section
variable {w : World} {A : Around} {E : Value → Shared → Prop} {s : Shared}
theorem named_useL {mean : ExcName → Option Value} {mg mb : Str → Option Value} {h₀ : Heap} {L : Addr} {m : Str → Option Value} {news rest : List (Addr × Obj)} {g : List (Addr × Obj) → List (Addr × Obj)} {xs : List Addr} {v : Value} {row : Row} {Q : Value → Shared → Prop}
    (hh : A.handled = none) (hdp : A.depth + 5 < recursionLimit) (F : Fr h₀ L s.heap m) (X₀ : (hd.heap_39 w.params).In h₀) (T₀ : Top hd.view_39 (looseW hd.view_39 []) mean mg mb h₀) (N : News h₀ L s.heap news)
    (hoff : Off xs rest) (hT : TailAt rest news g) (hxs : ∀ x ∈ xs, ∃ o, (x, o) ∈ news) (hr : RowAt (InL rest) v row)
    (h : ∀ r vs h' tk₁ rest', Fr h₀ L h' m → News h₀ L h' (g rest') → Off xs rest' → Sub rest rest' → SrcLst h₀ r vs rest' → IntsAre vs row.targets → Q (.ref r) { s with heap := h', toks := tk₁ }) :
    wpAny (model PySem.Challenge.rw_nn0292_01.row.prog w) A (call (.ref 75) [v]) Q E s := by
  refine named_use (S := InL rest) hh hdp F X₀ T₀ N (fun a o e => (N _ (hT.tail _ e)).1) hr fun r vs n h' tk₁ F' N' hap hi => ?_
  refine h r vs h' tk₁ ((r, listOf (List.toArray vs) n) :: rest) F' (fun p hp => ?_) (hoff.cons fun q => ?_) (fun p hp => .tail _ hp) ⟨n, .inr (.head _)⟩ hi
  · rcases hT.mem _ _ hp with hp | hp
    · rcases List.mem_cons.mp hp with rfl | hp
      · exact N' _ (.head _)
      · exact N' _ (.tail _ (hT.tail _ hp))
    · exact N' _ (.tail _ hp)
  · obtain ⟨o, ho⟩ := hxs _ q
    exact hap _ ho rfl
theorem cc_use {mean : ExcName → Option Value} {mg mb : Str → Option Value} {h₀ : Heap} {L : Addr} {m : Str → Option Value} {news rest : List (Addr × Obj)} {g : List (Addr × Obj) → List (Addr × Obj)} {xs : List Addr} {c : Addr} {vs : List Value} {n₀ : Nat} {rows : List Row} {Q : Value → Shared → Prop}
    (hh : A.handled = none) (hdp : A.depth + 20 < recursionLimit) (hun : A.units ≤ 3000) (F : Fr h₀ L s.heap m) (X₀ : (hd.heap_39 w.params).In h₀) (T₀ : Top hd.view_39 (looseW hd.view_39 []) mean mg mb h₀) (N : News h₀ L s.heap news)
    (hoff : Off xs rest) (hT : TailAt rest news g) (hxs : ∀ x ∈ xs, ∃ o, (x, o) ∈ news)
    (hc : (c, listOf (List.toArray vs) n₀) ∈ rest) (hr : RowsAt (InL rest) vs rows) (hl : rows.length ≤ 12)
    (h : ∀ r out n h' tk₁ rest', Fr h₀ L h' m → News h₀ L h' ((r, listOf (List.toArray out) n) :: g rest') → Off xs rest' → Sub rest rest' → (due rows ≠ [] → FaultsAre (InL rest') out (due rows)) → (due rows = [] → (out = [] ↔ Good rows)) → Q (.ref r) { s with heap := h', toks := tk₁ }) :
    wpAny (model PySem.Challenge.rw_nn0292_01.row.prog w) A (call (.ref 56) [.ref c]) Q E s := by
  obtain ⟨hd, d, fr, gd, un⟩ := A
  obtain rfl : hd = none := hh
  have hN : ∀ a o, (a, o) ∈ rest → s.heap.get? a = some o := fun a o e => (N _ (hT.tail _ e)).1
  refine wpAny_mono (cc_core hdp hun F.keep X₀ T₀ ⟨_, hN _ _ hc, rfl, _, rfl⟩ (hr.mono fun a o _ e => hN a o e) hl fun r out n h' tk₁ R hg hn hf hgo => ?_) (fun _ _ x => x) fun _ _ x => x.elim
  have F' := R.fr F fun _ q => nomatch q
  have N' := R.news N fun _ _ q => nomatch q
  obtain ⟨l, h1, h2⟩ : ∃ l : List (Addr × Obj), (∀ p ∈ l, h'.get? p.1 = some p.2 ∧ s.heap.get? p.1 = none) ∧ (due rows ≠ [] → FaultsAre (InL l) out (due rows)) := by
    by_cases e : due rows = []
    · exact ⟨[], (fun _ h => nomatch h), fun x => absurd e x⟩
    · obtain ⟨l, a, b⟩ := (hf e).led
      exact ⟨l, a, fun _ => b⟩
  refine h r out n h' tk₁ (l ++ rest) F' (fun p hp => ?_) (fun p hp e => ?_) (fun p hp => List.mem_append_right _ hp) (fun e => (h2 e).mono fun _ _ _ x => List.mem_append_left _ x) hgo
  · rcases List.mem_cons.mp hp with rfl | hp
    · exact newOne F hg hn
    · rcases hT.mem _ _ hp with hp | hp
      · rcases List.mem_append.mp hp with hp | hp
        · exact newOne F (h1 p hp).1 (h1 p hp).2
        · exact N' _ (hT.tail _ hp)
      · exact N' _ hp
  · rcases List.mem_append.mp hp with hp | hp
    · obtain ⟨o, ho⟩ := hxs _ e
      have h3 := (N _ ho).1
      rw [(h1 p hp).2] at h3
      cases h3
    · exact hoff p hp e
theorem ls_use {mean : ExcName → Option Value} {mg mb : Str → Option Value} {h₀ : Heap} {L : Addr} {m : Str → Option Value} {news : List (Addr × Obj)} {S : Addr → Obj → Prop} {c : Addr} {vs : List Value} {n₀ : Nat} {rows : List Row} {Q : Value → Shared → Prop}
    (hh : A.handled = none) (hdp : A.depth + 10 < recursionLimit) (hun : A.units ≤ 4000) (F : Fr h₀ L s.heap m) (X₀ : (hd.heap_39 w.params).In h₀) (T₀ : Top hd.view_39 (looseW hd.view_39 []) mean mg mb h₀) (N : News h₀ L s.heap news)
    (hS : ∀ a o, S a o → (a, o) ∈ news) (hc : S c (listOf (List.toArray vs) n₀)) (hr : RowsAt S vs rows) (hl : rows.length ≤ 12) (hd : due rows = [])
    (h : ∀ b h' tk₁, Fr h₀ L h' m → News h₀ L h' news → (b = true ↔ Good rows) → Q (.bool b) { s with heap := h', toks := tk₁ }) :
    wpAny (model PySem.Challenge.rw_nn0292_01.row.prog w) A (call (.ref 82) [.ref c]) Q E s := by
  obtain ⟨hd', d, fr, gd, un⟩ := A
  obtain rfl : hd' = none := hh
  have hN : ∀ a o, S a o → s.heap.get? a = some o := fun a o e => (N _ (hS _ _ e)).1
  refine wpAny_mono (ls_core hdp hun F.keep X₀ T₀ ⟨_, hN _ _ hc, rfl, _, rfl⟩ (hr.mono fun a o _ e => hN a o e) hl hd fun b h' tk₁ R hb => ?_) (fun _ _ x => x) fun _ _ x => x.elim
  exact h b h' tk₁ (R.fr F fun _ q => nomatch q) (R.news N fun _ _ q => nomatch q) hb
end

/-- the law's own reckoning of what is due -/
def LwO (R du : Addr) (vs : List Value) (nR : Nat) (rows : List Row) (i : Nat) (m : Str → Option Value) (nx : List (Addr × Obj)) : Prop :=
  ∃ fs n rest, nx = (du, listOf (List.toArray fs) n) :: rest ∧ Off [du] rest ∧ (R, listOf (List.toArray vs) nR) ∈ rest ∧ RowsAt (InL rest) vs rows ∧ FaultsAre (InL rest) fs (tfTo rows i) ∧ fs.length ≤ 2 * i ∧
    m (Str.ofString "rows") = some (.ref R) ∧ m (Str.ofString "due") = some (.ref du)
def LwI (du I : Addr) (oI : Obj) (r : Addr) (its : List Value) (h₀ : Heap) (rest0 : List (Addr × Obj)) (rows : List Row) (i : Nat) (row : Row) (m₀ : Str → Option Value) (k : Nat) (m : Str → Option Value) (nx : List (Addr × Obj)) : Prop :=
  ∃ fs n rest, nx = (I, oI) :: (du, listOf (List.toArray fs) n) :: rest ∧ Off [I, du] rest ∧ Sub rest0 rest ∧ SrcLst h₀ r its rest ∧ FaultsAre (InL rest) fs (tfTo rows i ++ badAt rows.length i (row.targets.take k)) ∧ fs.length ≤ 2 * i + k ∧ Stays (Str.ofString "spot") m₀ m
section
variable {R du I D r : Addr} {vs its fs : List Value} {nR n n' i k : Nat} {rows : List Row} {row : Row} {m m₀ : Str → Option Value} {rest rest0 : List (Addr × Obj)} {oI : Obj} {h₀ : Heap} {tv : Int} {t u : Tok} {o' v : Option Value}
theorem lwi_start (off : Off [I, du] rest) (src : SrcLst h₀ r its rest) (sub : Sub rest0 rest) (hf : FaultsAre (InL rest0) fs (tfTo rows i)) (hl : fs.length ≤ 2 * i) : LwI du I oI r its h₀ rest rows i row m 0 m ((I, oI) :: (du, listOf (List.toArray fs) n) :: rest) :=
  ⟨fs, n, rest, rfl, off, .refl _, src, by simpa [badAt] using hf.mono fun _ _ _ e => sub _ e, hl, .start _ _⟩
theorem lwi_src (k : Nat) (m : Str → Option Value) (nx : List (Addr × Obj)) (h : LwI du I oI r its h₀ rest0 rows i row m₀ k m nx) : SrcLst h₀ r its nx := by
  obtain ⟨fs, n, rest, rfl, _, _, hs, _⟩ := h
  exact srcLst_mono hs fun p hp => .tail _ (.tail _ hp)
theorem lwi_yes (off : Off [I, du] rest) (sub : Sub rest0 rest) (src : SrcLst h₀ r its rest) (hf : FaultsAre (InL rest) fs (tfTo rows i ++ badAt rows.length i (row.targets.take k))) (hl : fs.length ≤ 2 * i + k) (hv : row.targets[k]? = some tv) (hb : tv < 0 ∨ (rows.length : Int) ≤ tv)
    (l1 : @LT.lt Nat _ I D) (l2 : @LT.lt Nat _ du D) :
    LwI du I oI r its h₀ rest0 rows i row m₀ (k + 1) (fun y => if y = Str.ofString "spot" then v else (fun y => if y = Str.ofString "spot" then o' else m₀ y) y) ((I, oI) :: (du, listOf (List.toArray (fs ++ [.ref D])) n') :: (D, tupOf [.int (i : Int) t, .str (Str.ofString "bad_target") u]) :: rest) := by
  refine ⟨_, _, _, rfl, off.new (lt2 l1 l2), sub.cons, srcLst_mono src fun p hp => .tail _ hp, ?_, by simp; omega, .turn⟩
  rw [badAt_take _ _ _ _ _ hv, ← List.append_assoc]
  have e : badOne rows.length i tv = [((i : Int), Str.ofString "bad_target")] := by unfold badOne; rw [if_pos hb]
  rw [e]
  exact (hf.mono fun _ _ _ x => .tail _ x).snoc (.head _)
theorem lwi_no (off : Off [I, du] rest) (sub : Sub rest0 rest) (src : SrcLst h₀ r its rest) (hf : FaultsAre (InL rest) fs (tfTo rows i ++ badAt rows.length i (row.targets.take k))) (hl : fs.length ≤ 2 * i + k) (hv : row.targets[k]? = some tv) (hb : 0 ≤ tv) (hb' : tv < (rows.length : Int)) :
    LwI du I oI r its h₀ rest0 rows i row m₀ (k + 1) (fun y => if y = Str.ofString "spot" then v else (fun y => if y = Str.ofString "spot" then o' else m₀ y) y) ((I, oI) :: (du, listOf (List.toArray fs) n') :: rest) := by
  refine ⟨_, _, _, rfl, off, sub, src, ?_, by omega, .turn⟩
  rw [badAt_take _ _ _ _ _ hv]
  have e : badOne rows.length i tv = [] := by unfold badOne; rw [if_neg (by omega)]
  rw [e, List.append_nil]
  exact hf
theorem lwo_next {hi : i < rows.length} (off : Off [I, du] rest) (sub : Sub rest0 rest) (hR : (R, listOf (List.toArray vs) nR) ∈ rest0) (hrs : RowsAt (InL rest0) vs rows) (hf : FaultsAre (InL rest) fs (tfTo rows i ++ badAt rows.length i (rows[i].targets.take its.length))) (hl : fs.length ≤ 2 * i + its.length) (hit : its.length = rows[i].targets.length) (h2 : rows[i].targets.length ≤ 2)
    (h1 : m (Str.ofString "rows") = some (.ref R)) (h2' : m (Str.ofString "due") = some (.ref du)) : LwO R du vs nR rows (i + 1) m ((du, listOf (List.toArray fs) n) :: rest) := by
  refine ⟨_, _, _, rfl, off.sub (by simp), sub _ hR, hrs.mono fun _ _ _ e => sub _ e, ?_, by omega, h1, h2'⟩
  rw [tfTo_succ]
  have e : rows.getD i .set = rows[i] := by simp [List.getD, List.getElem?_eq_getElem hi]
  rw [hit, List.take_length] at hf
  rw [e]
  exact hf
end
end
open PySem PySem.W PySem.Calls PyProof.Rows
set_option Elab.async false
set_option maxRecDepth 100000
set_option maxHeartbeats 2000000
section
/-- behind the draws: the rows stand in a list -/
def CutRows (h₀ : Heap) (L : Addr) (s₁ : Shared) (fl : Flow) (s₂ : Shared) : Prop :=
  fl = .next ∧ ∃ h' tk m' R vs nR rows rest, s₂ = { s₁ with heap := h', toks := tk } ∧ Fr h₀ L h' m' ∧ News h₀ L h' rest ∧ (R, listOf (List.toArray vs) nR) ∈ rest ∧ RowsAt (InL rest) vs rows ∧ rows.length ≤ 10 ∧ m' (Str.ofString "rows") = some (.ref R)
theorem cut_rows {prog : Program} {w : World} {A : Around} {s : Shared} {h₀ : Heap} {L : Addr} {m : Str → Option Value} {t : Sem Flow} {Q : Flow → Shared → Prop} {E : Value → Shared → Prop} (_F : Fr h₀ L s.heap m)
    (a : wpAny (model prog w) A t (CutRows h₀ L s) (fun _ _ => False) s)
    (b : ∀ h' tk m' R vs nR rows rest, Fr h₀ L h' m' → News h₀ L h' rest → (R, listOf (List.toArray vs) nR) ∈ rest → RowsAt (InL rest) vs rows → rows.length ≤ 10 → m' (Str.ofString "rows") = some (.ref R) → Q .next { s with heap := h', toks := tk }) : wpAny (model prog w) A t Q E s := by
  refine wpAny_mono a (fun fl s' hc => ?_) fun _ _ x => x.elim
  obtain ⟨rfl, h', tk, m', R, vs, nR, rows, rest, rfl, F, N, h1, h2, h3, h4⟩ := hc
  exact b h' tk m' R vs nR rows rest F N h1 h2 h3 h4
theorem CutRows.intro {h₀ h' : Heap} {L R : Addr} {s₁ : Shared} {tk nR : Nat} {m' : Str → Option Value} {vs : List Value} {rows : List Row} {rest : List (Addr × Obj)} (F : Fr h₀ L h' m') (N : News h₀ L h' rest) (hR : (R, listOf (List.toArray vs) nR) ∈ rest) (hr : RowsAt (InL rest) vs rows) (hl : rows.length ≤ 10) (hm : m' (Str.ofString "rows") = some (.ref R)) :
    CutRows h₀ L s₁ .next { s₁ with heap := h', toks := tk } := ⟨rfl, _, _, _, _, _, _, _, _, rfl, F, N, hR, hr, hl, hm⟩
/-- behind the law's own reckoning -/
def CutDue (R : Addr) (vs : List Value) (nR : Nat) (rows : List Row) (h₀ : Heap) (L : Addr) (s₁ : Shared) (fl : Flow) (s₂ : Shared) : Prop :=
  fl = .next ∧ ∃ h' tk m' du fs n rest, s₂ = { s₁ with heap := h', toks := tk } ∧ Fr h₀ L h' m' ∧ News h₀ L h' ((du, listOf (List.toArray fs) n) :: rest) ∧ Off [du] rest ∧ (R, listOf (List.toArray vs) nR) ∈ rest ∧ RowsAt (InL rest) vs rows ∧ FaultsAre (InL rest) fs (due rows) ∧
    m' (Str.ofString "rows") = some (.ref R) ∧ m' (Str.ofString "due") = some (.ref du)
theorem cut_due {prog : Program} {w : World} {A : Around} {s : Shared} {h₀ : Heap} {L : Addr} {m : Str → Option Value} {t : Sem Flow} {Q : Flow → Shared → Prop} {E : Value → Shared → Prop} (R : Addr) (vs : List Value) (nR : Nat) (rows : List Row) (_F : Fr h₀ L s.heap m)
    (a : wpAny (model prog w) A t (CutDue R vs nR rows h₀ L s) (fun _ _ => False) s)
    (b : ∀ h' tk m' du fs n rest, Fr h₀ L h' m' → News h₀ L h' ((du, listOf (List.toArray fs) n) :: rest) → Off [du] rest → (R, listOf (List.toArray vs) nR) ∈ rest → RowsAt (InL rest) vs rows → FaultsAre (InL rest) fs (due rows) → m' (Str.ofString "rows") = some (.ref R) → m' (Str.ofString "due") = some (.ref du) →
      Q .next { s with heap := h', toks := tk }) : wpAny (model prog w) A t Q E s := by
  refine wpAny_mono a (fun fl s' hc => ?_) fun _ _ x => x.elim
  obtain ⟨rfl, h', tk, m', du, fs, n, rest, rfl, F, N, h1, h2, h3, h4, h5, h6⟩ := hc
  exact b h' tk m' du fs n rest F N h1 h2 h3 h4 h5 h6
theorem CutDue.yes {h₀ h' : Heap} {L R du D : Addr} {s₁ : Shared} {tk nR n : Nat} {t u : Tok} {m' : Str → Option Value} {vs fs : List Value} {rows : List Row} {rest news : List (Addr × Obj)} (F : Fr h₀ L h' m') (N : News h₀ L h' news) (h1 : (du, listOf (List.toArray (fs ++ [.ref D])) n) ∈ news) (h2 : (D, tupOf [.int (vs.length : Int) t, .str (Str.ofString "no_end") u]) ∈ news) (h3 : ∀ p ∈ rest, p ∈ news)
    (lt : @LT.lt Nat _ du D) (off : Off [du] rest) (hR : (R, listOf (List.toArray vs) nR) ∈ rest) (hr : RowsAt (InL rest) vs rows) (hf : FaultsAre (InL rest) fs (tfTo rows vs.length)) (he : endFault rows = [((rows.length : Int), Str.ofString "no_end")]) (m1 : m' (Str.ofString "rows") = some (.ref R)) (m2 : m' (Str.ofString "due") = some (.ref du)) :
    CutDue R vs nR rows h₀ L s₁ .next { s₁ with heap := h', toks := tk } := by
  refine ⟨rfl, _, _, _, du, fs ++ [.ref D], n, (D, tupOf [.int (vs.length : Int) t, .str (Str.ofString "no_end") u]) :: rest, rfl, F, fun p hp => N p ?_, off.new (fun x hx => by rw [List.mem_singleton.mp hx]; exact lt), .tail _ hR, hr.mono fun _ _ _ e => .tail _ e, tf_yes hf hr.1 he, m1, m2⟩
  rcases List.mem_cons.mp hp with rfl | hp
  · exact h1
  · rcases List.mem_cons.mp hp with rfl | hp
    · exact h2
    · exact h3 p hp
theorem CutDue.no {h₀ h' : Heap} {L R du : Addr} {s₁ : Shared} {tk nR n : Nat} {m' : Str → Option Value} {vs fs : List Value} {rows : List Row} {rest news : List (Addr × Obj)} (F : Fr h₀ L h' m') (N : News h₀ L h' news) (h1 : (du, listOf (List.toArray fs) n) ∈ news) (h3 : ∀ p ∈ rest, p ∈ news)
    (off : Off [du] rest) (hR : (R, listOf (List.toArray vs) nR) ∈ rest) (hr : RowsAt (InL rest) vs rows) (hf : FaultsAre (InL rest) fs (tfTo rows vs.length)) (he : endFault rows = []) (m1 : m' (Str.ofString "rows") = some (.ref R)) (m2 : m' (Str.ofString "due") = some (.ref du)) :
    CutDue R vs nR rows h₀ L s₁ .next { s₁ with heap := h', toks := tk } := by
  refine ⟨rfl, _, _, _, du, fs, n, rest, rfl, F, fun p hp => N p ?_, off, hR, hr, tf_no hf hr.1 he, m1, m2⟩
  rcases List.mem_cons.mp hp with rfl | hp
  · exact h1
  · exact h3 p hp
theorem lwo_start {R du : Addr} {vs : List Value} {nR n : Nat} {rows : List Row} {m : Str → Option Value} {rest : List (Addr × Obj)} (off : ∀ p ∈ rest, p.1 < du) (hR : (R, listOf (List.toArray vs) nR) ∈ rest) (hr : RowsAt (InL rest) vs rows) (m1 : m (Str.ofString "rows") = some (.ref R)) (m2 : m (Str.ofString "due") = some (.ref du)) :
    LwO R du vs nR rows 0 m ((du, listOf #[] n) :: rest) := ⟨[], n, rest, rfl, fun p hp e => absurd (List.mem_singleton.mp e) (Nat.ne_of_lt (off p hp)), hR, hr, .nil, Nat.zero_le _, m1, m2⟩
inductive Mark : Prop | intro
theorem good_eq {a b : Bool} {P : Prop} (h1 : a = true ↔ P) (h2 : b = true ↔ P) : a = b := by
  cases a <;> cases b <;> simp_all
theorem law_post (ns : List Int) : (PySem.Challenge.rw_nn0292_01.row.claim).post [ofPy (PyData.list (List.map PyData.int ns))] (.bool true) [ofPy (PyData.list (List.map PyData.int ns))] = true := by
  w_top on
  wrow_post
theorem end_eq {out : List Value} {rows : List Row} {b : Bool} (hgo : due rows = [] → (out = [] ↔ Good rows)) (hd0 : due rows = []) (hb : b = true ↔ Good rows) : (decide (out.toArray.size = 0) == b) = true := by
  have e : decide (out.toArray.size = 0) = b := good_eq (P := Good rows) (by rw [decide_eq_true_eq, List.size_toArray, List.length_eq_zero_iff]; exact hgo hd0) hb
  rw [e]
  exact beq_self_eq_true b
end
open PySem PySem.W PySem.Calls PyProof.Rows
set_option Elab.async false
set_option maxRecDepth 100000
set_option maxHeartbeats 8000000
section
local macro_rules | `(tactic| k_all) => `(tactic| first | (refine Off.ne (by assumption) ?_; simp; done) | exact allLt_ne (by assumption))
local macro_rules | `(tactic| k_mem) => `(tactic| first | assumption | (apply Sub.mem; assumption; k_mem))
local macro_rules | `(tactic| walk_at "pyIter ref") => `(tactic| (k_here; refine' halt ?_))
local macro_rules | `(tactic| walk_at $s:str) => `(tactic| k_extra $s)
theorem holds : PySem.Challenge.rw_nn0292_01.Holds := by
  w_top off
  k_with_none
  (k_with "call ref" => (k_here; refine' halt ?_))
  (k_with "CompSrc" => (k_here; refine' halt ?_))
  (k_with "exec For Name Call cons nil" => (k_here; (with_unfolding_all refine' for_exec ?_ ?hs_z300); (case hs_z300 => (intro _; with_unfolding_all rfl))))
  (k_with "exec For Name Call cons nil" => (k_here; (with_unfolding_all refine' for_exec ?_ ?hs_z301); (case hs_z301 => (intro _; with_unfolding_all rfl))))
  (k_with "exec For Name Call cons nil" => (k_here; (with_unfolding_all refine' for_exec ?_ ?hs_z302); (case hs_z302 => (intro _; with_unfolding_all rfl))))
  (k_with "exec For Name Call cons nil" => (k_here; (with_unfolding_all refine' for_exec ?_ ?hs_z303); (case hs_z303 => (intro _; with_unfolding_all rfl))))
  (k_with "exec For Name Call cons nil" => (k_here; (with_unfolding_all refine' for_exec ?_ ?hs_z304); (case hs_z304 => (intro _; with_unfolding_all rfl))))
  (k_with "exec For Name Call cons nil" => (k_here; (with_unfolding_all refine' for_exec ?_ ?hs_z305); (case hs_z305 => (intro _; with_unfolding_all rfl))))
  (k_with "call builtin:len" => (k_here; (with_reducible show wpAny _ _ (call (Value.builtin "len") [Value.ref _]) _ _ _); k_dflt (refine' len_list (News.isList ?hl_z306 ?hm_z306) ?hf_z306 ?_; (case hl_z306 => k_asm); (case hm_z306 => k_mem)); (case hf_z306 => (simp only [List.size_toArray]; omega)); (try simp only [List.size_toArray])))
  (k_with "call builtin:len" => (k_here; (with_reducible show wpAny _ _ (call (Value.builtin "len") [Value.ref _]) _ _ _); k_dflt (refine' len_list (News.isList ?hl_z307 ?hm_z307) ?hf_z307 ?_; (case hl_z307 => k_asm); (case hm_z307 => k_mem)); (case hf_z307 => (simp only [List.size_toArray]; omega)); (try simp only [List.size_toArray])))
  (k_with "call builtin:len" => (k_here; (with_reducible show wpAny _ _ (call (Value.builtin "len") [Value.ref _]) _ _ _); k_dflt (refine' len_list (News.isList ?hl_z308 ?hm_z308) ?hf_z308 ?_; (case hl_z308 => k_asm); (case hm_z308 => k_mem)); (case hf_z308 => (simp only [List.size_toArray]; omega)); (try simp only [List.size_toArray])))
  (k_with "call builtin:len" => (k_here; (with_reducible show wpAny _ _ (call (Value.builtin "len") [Value.ref _]) _ _ _); k_dflt (refine' len_list (News.isList ?hl_z309 ?hm_z309) ?hf_z309 ?_; (case hl_z309 => k_asm); (case hm_z309 => k_mem)); (case hf_z309 => (simp only [List.size_toArray]; omega)); (try simp only [List.size_toArray])))
  (k_with "call builtin:len" => (k_here; (with_reducible show wpAny _ _ (call (Value.builtin "len") [Value.ref _]) _ _ _); k_dflt (refine' len_list (News.isList ?hl_z310 ?hm_z310) ?hf_z310 ?_; (case hl_z310 => k_asm); (case hm_z310 => k_mem)); (case hf_z310 => (simp only [List.size_toArray]; omega)); (try simp only [List.size_toArray])))
  (k_with "call builtin:len" => (k_here; (with_reducible show wpAny _ _ (call (Value.builtin "len") [Value.ref _]) _ _ _); k_dflt (refine' len_list (News.isList ?hl_z311 ?hm_z311) ?hf_z311 ?_; (case hl_z311 => k_asm); (case hm_z311 => k_mem)); (case hf_z311 => (simp only [List.size_toArray]; omega)); (try simp only [List.size_toArray])))
  (k_with "subscriptTail BinOp" => (k_here; walk_at "last subscriptTail"))
  (k_with "subscriptTail Subscript" => (k_here; walk_at "last subscriptTail"))
  (k_with "GoodW cons ok" => (refine' halt ?_))
  (k_with "exec If" => (k_here; (have _hm_z315 : Mark := by assumption); clear _hm_z315; refine' halt ?_))
  (k_with "binaryOp Add ref ref" => (k_here; k_dflt (refine' cat_lists ?F_z316 ?N_z316 (News.isList ?N2_z316 ?a_z316) (News.isList ?N3_z316 ?b_z316) ?z_z316 ?_; (case F_z316 => k_asm); (case N_z316 => k_asm); (case N2_z316 => k_asm); (case a_z316 => k_mem); (case N3_z316 => k_asm); (case b_z316 => k_mem); (case z_z316 => (simp only [List.length_singleton]; omega))); k_whole; intro D'_z316 h'_z316 F'_z316 N'_z316 l1_z316; (try k_sweep)))
  (k_with "binaryOp Add ref ref" => (k_here; k_dflt (refine' cat_lists ?F_z317 ?N_z317 (News.isList ?N2_z317 ?a_z317) (News.isList ?N3_z317 ?b_z317) ?z_z317 ?_; (case F_z317 => k_asm); (case N_z317 => k_asm); (case N2_z317 => k_asm); (case a_z317 => k_mem); (case N3_z317 => k_asm); (case b_z317 => k_mem); (case z_z317 => (simp only [List.length_singleton]; omega))); k_whole; intro D'_z317 h'_z317 F'_z317 N'_z317 l1_z317; (try k_sweep)))
  (k_with "binaryOp Add ref ref" => (k_here; k_dflt (refine' cat_lists ?F_z318 ?N_z318 (News.isList ?N2_z318 ?a_z318) (News.isList ?N3_z318 ?b_z318) ?z_z318 ?_; (case F_z318 => k_asm); (case N_z318 => k_asm); (case N2_z318 => k_asm); (case a_z318 => k_mem); (case N3_z318 => k_asm); (case b_z318 => k_mem); (case z_z318 => (simp only [List.length_singleton]; omega))); k_whole; intro D'_z318 h'_z318 F'_z318 N'_z318 l1_z318; (try k_sweep)))
  (k_with "binaryOp Add ref ref" => (k_here; k_dflt (refine' cat_lists ?F_z319 ?N_z319 (News.isList ?N2_z319 ?a_z319) (News.isList ?N3_z319 ?b_z319) ?z_z319 ?_; (case F_z319 => k_asm); (case N_z319 => k_asm); (case N2_z319 => k_asm); (case a_z319 => k_mem); (case N3_z319 => k_asm); (case b_z319 => k_mem); (case z_z319 => (simp only [List.length_singleton]; omega))); k_whole; intro D'_z319 h'_z319 F'_z319 N'_z319 l1_z319; (try k_sweep)))
  (k_with "binaryOp Add ref ref" => (k_here; k_dflt (refine' cat_lists ?F_z320 ?N_z320 (News.isList ?N2_z320 ?a_z320) (News.isList ?N3_z320 ?b_z320) ?z_z320 ?_; (case F_z320 => k_asm); (case N_z320 => k_asm); (case N2_z320 => k_asm); (case a_z320 => k_mem); (case N3_z320 => k_asm); (case b_z320 => k_mem); (case z_z320 => (simp only [List.length_singleton]; omega))); k_whole; intro D'_z320 h'_z320 F'_z320 N'_z320 l1_z320; (try k_sweep)))
  (k_with "binaryOp Add ref ref" => (k_here; k_dflt (refine' cat_lists ?F_z321 ?N_z321 (News.isList ?N2_z321 ?a_z321) (News.isList ?N3_z321 ?b_z321) ?z_z321 ?_; (case F_z321 => k_asm); (case N_z321 => k_asm); (case N2_z321 => k_asm); (case a_z321 => k_mem); (case N3_z321 => k_asm); (case b_z321 => k_mem); (case z_z321 => (simp only [List.length_singleton]; omega))); k_whole; intro D'_z321 h'_z321 F'_z321 N'_z321 l1_z321; (try k_sweep)))
  (k_with "call ref" => (k_here; (with_reducible show wpAny _ _ (call (Value.ref 63) [Value.ref _, Value.int _ _]) _ _ _); k_dflt (refine' draw_use ?hh_z322 ?hdp_z322 ?F_z322 ?X_z322 ?T_z322 ?N_z322 ?U_z322 ?hc_z322 ?hi_z322 ?hne_z322 ?hx_z322 ?hk0_z322 ?hk1_z322 ?hm0_z322 ?hm1_z322 ?hl0_z322 ?hl1_z322 ?_); (case hh_z322 => with_unfolding_all exact rfl); (case hdp_z322 => ((try simp only [depth_under_make, depth_under_kw, depth_in1, depth_deeper, depth_caller]); (try dsimp only [Ar]); first | omega | decide)); (case F_z322 => k_asm); (case X_z322 => k_asm); (case T_z322 => k_asm); (case N_z322 => k_asm); (case U_z322 => k_updF); (case hc_z322 => (refine' News.isList ?z1_z322 ?z2_z322; (case z1_z322 => k_asm); (case z2_z322 => k_dflt k_mem))); (case hi_z322 => assumption); (case hne_z322 => first | assumption | k_ne); (case hx_z322 => first | assumption | omega); (case hk0_z322 => first | assumption | omega); (case hk1_z322 => first | assumption | omega); (case hm0_z322 => first | assumption | decide | omega); (case hm1_z322 => first | assumption | decide | omega); (case hl0_z322 => assumption); (case hl1_z322 => assumption); k_whole; intro d_z322 td_z322 x'_z322 tx'_z322 k'_z322 tk'_z322 n'_z322 h'_z322 tk₁_z322 F'_z322 N'_z322 hd0_z322 hd1_z322 hx'_z322 hk0'_z322 hk1'_z322; (try k_sweep)))
  (k_with "call ref" => (k_here; (with_reducible show wpAny _ _ (call (Value.ref 63) [Value.ref _, Value.int _ _]) _ _ _); k_dflt (refine' draw_use ?hh_z323 ?hdp_z323 ?F_z323 ?X_z323 ?T_z323 ?N_z323 ?U_z323 ?hc_z323 ?hi_z323 ?hne_z323 ?hx_z323 ?hk0_z323 ?hk1_z323 ?hm0_z323 ?hm1_z323 ?hl0_z323 ?hl1_z323 ?_); (case hh_z323 => with_unfolding_all exact rfl); (case hdp_z323 => ((try simp only [depth_under_make, depth_under_kw, depth_in1, depth_deeper, depth_caller]); (try dsimp only [Ar]); first | omega | decide)); (case F_z323 => k_asm); (case X_z323 => k_asm); (case T_z323 => k_asm); (case N_z323 => k_asm); (case U_z323 => k_updF); (case hc_z323 => (refine' News.isList ?z1_z323 ?z2_z323; (case z1_z323 => k_asm); (case z2_z323 => k_dflt k_mem))); (case hi_z323 => assumption); (case hne_z323 => first | assumption | k_ne); (case hx_z323 => first | assumption | omega); (case hk0_z323 => first | assumption | omega); (case hk1_z323 => first | assumption | omega); (case hm0_z323 => first | assumption | decide | omega); (case hm1_z323 => first | assumption | decide | omega); (case hl0_z323 => assumption); (case hl1_z323 => assumption); k_whole; intro d_z323 td_z323 x'_z323 tx'_z323 k'_z323 tk'_z323 n'_z323 h'_z323 tk₁_z323 F'_z323 N'_z323 hd0_z323 hd1_z323 hx'_z323 hk0'_z323 hk1'_z323; (try k_sweep)))
  (k_with "call ref" => (k_here; (with_reducible show wpAny _ _ (call (Value.ref 63) [Value.ref _, Value.int _ _]) _ _ _); k_dflt (refine' draw_use ?hh_z324 ?hdp_z324 ?F_z324 ?X_z324 ?T_z324 ?N_z324 ?U_z324 ?hc_z324 ?hi_z324 ?hne_z324 ?hx_z324 ?hk0_z324 ?hk1_z324 ?hm0_z324 ?hm1_z324 ?hl0_z324 ?hl1_z324 ?_); (case hh_z324 => with_unfolding_all exact rfl); (case hdp_z324 => ((try simp only [depth_under_make, depth_under_kw, depth_in1, depth_deeper, depth_caller]); (try dsimp only [Ar]); first | omega | decide)); (case F_z324 => k_asm); (case X_z324 => k_asm); (case T_z324 => k_asm); (case N_z324 => k_asm); (case U_z324 => k_updF); (case hc_z324 => (refine' News.isList ?z1_z324 ?z2_z324; (case z1_z324 => k_asm); (case z2_z324 => k_dflt k_mem))); (case hi_z324 => assumption); (case hne_z324 => first | assumption | k_ne); (case hx_z324 => first | assumption | omega); (case hk0_z324 => first | assumption | omega); (case hk1_z324 => first | assumption | omega); (case hm0_z324 => first | assumption | decide | omega); (case hm1_z324 => first | assumption | decide | omega); (case hl0_z324 => assumption); (case hl1_z324 => assumption); k_whole; intro d_z324 td_z324 x'_z324 tx'_z324 k'_z324 tk'_z324 n'_z324 h'_z324 tk₁_z324 F'_z324 N'_z324 hd0_z324 hd1_z324 hx'_z324 hk0'_z324 hk1'_z324; (try k_sweep)))
  (k_with "call ref" => (k_here; (with_reducible show wpAny _ _ (call (Value.ref 63) [Value.ref _, Value.int _ _]) _ _ _); k_dflt (refine' draw_use ?hh_z325 ?hdp_z325 ?F_z325 ?X_z325 ?T_z325 ?N_z325 ?U_z325 ?hc_z325 ?hi_z325 ?hne_z325 ?hx_z325 ?hk0_z325 ?hk1_z325 ?hm0_z325 ?hm1_z325 ?hl0_z325 ?hl1_z325 ?_); (case hh_z325 => with_unfolding_all exact rfl); (case hdp_z325 => ((try simp only [depth_under_make, depth_under_kw, depth_in1, depth_deeper, depth_caller]); (try dsimp only [Ar]); first | omega | decide)); (case F_z325 => k_asm); (case X_z325 => k_asm); (case T_z325 => k_asm); (case N_z325 => k_asm); (case U_z325 => k_updF); (case hc_z325 => (refine' News.isList ?z1_z325 ?z2_z325; (case z1_z325 => k_asm); (case z2_z325 => k_dflt k_mem))); (case hi_z325 => assumption); (case hne_z325 => first | assumption | k_ne); (case hx_z325 => first | assumption | omega); (case hk0_z325 => first | assumption | omega); (case hk1_z325 => first | assumption | omega); (case hm0_z325 => first | assumption | decide | omega); (case hm1_z325 => first | assumption | decide | omega); (case hl0_z325 => assumption); (case hl1_z325 => assumption); k_whole; intro d_z325 td_z325 x'_z325 tx'_z325 k'_z325 tk'_z325 n'_z325 h'_z325 tk₁_z325 F'_z325 N'_z325 hd0_z325 hd1_z325 hx'_z325 hk0'_z325 hk1'_z325; (try k_sweep)))
  (k_with "call ref" => (k_here; (with_reducible show wpAny _ _ (call (Value.ref 63) [Value.ref _, Value.int _ _]) _ _ _); k_dflt (refine' draw_use ?hh_z326 ?hdp_z326 ?F_z326 ?X_z326 ?T_z326 ?N_z326 ?U_z326 ?hc_z326 ?hi_z326 ?hne_z326 ?hx_z326 ?hk0_z326 ?hk1_z326 ?hm0_z326 ?hm1_z326 ?hl0_z326 ?hl1_z326 ?_); (case hh_z326 => with_unfolding_all exact rfl); (case hdp_z326 => ((try simp only [depth_under_make, depth_under_kw, depth_in1, depth_deeper, depth_caller]); (try dsimp only [Ar]); first | omega | decide)); (case F_z326 => k_asm); (case X_z326 => k_asm); (case T_z326 => k_asm); (case N_z326 => k_asm); (case U_z326 => k_updF); (case hc_z326 => (refine' News.isList ?z1_z326 ?z2_z326; (case z1_z326 => k_asm); (case z2_z326 => k_dflt k_mem))); (case hi_z326 => assumption); (case hne_z326 => first | assumption | k_ne); (case hx_z326 => first | assumption | omega); (case hk0_z326 => first | assumption | omega); (case hk1_z326 => first | assumption | omega); (case hm0_z326 => first | assumption | decide | omega); (case hm1_z326 => first | assumption | decide | omega); (case hl0_z326 => assumption); (case hl1_z326 => assumption); k_whole; intro d_z326 td_z326 x'_z326 tx'_z326 k'_z326 tk'_z326 n'_z326 h'_z326 tk₁_z326 F'_z326 N'_z326 hd0_z326 hd1_z326 hx'_z326 hk0'_z326 hk1'_z326; (try k_sweep)))
  (k_with "call ref" => (k_here; (with_reducible show wpAny _ _ (call (Value.ref 63) [Value.ref _, Value.int _ _]) _ _ _); k_dflt (refine' draw_use ?hh_z327 ?hdp_z327 ?F_z327 ?X_z327 ?T_z327 ?N_z327 ?U_z327 ?hc_z327 ?hi_z327 ?hne_z327 ?hx_z327 ?hk0_z327 ?hk1_z327 ?hm0_z327 ?hm1_z327 ?hl0_z327 ?hl1_z327 ?_); (case hh_z327 => with_unfolding_all exact rfl); (case hdp_z327 => ((try simp only [depth_under_make, depth_under_kw, depth_in1, depth_deeper, depth_caller]); (try dsimp only [Ar]); first | omega | decide)); (case F_z327 => k_asm); (case X_z327 => k_asm); (case T_z327 => k_asm); (case N_z327 => k_asm); (case U_z327 => k_updF); (case hc_z327 => (refine' News.isList ?z1_z327 ?z2_z327; (case z1_z327 => k_asm); (case z2_z327 => k_dflt k_mem))); (case hi_z327 => assumption); (case hne_z327 => first | assumption | k_ne); (case hx_z327 => first | assumption | omega); (case hk0_z327 => first | assumption | omega); (case hk1_z327 => first | assumption | omega); (case hm0_z327 => first | assumption | decide | omega); (case hm1_z327 => first | assumption | decide | omega); (case hl0_z327 => assumption); (case hl1_z327 => assumption); k_whole; intro d_z327 td_z327 x'_z327 tx'_z327 k'_z327 tk'_z327 n'_z327 h'_z327 tk₁_z327 F'_z327 N'_z327 hd0_z327 hd1_z327 hx'_z327 hk0'_z327 hk1'_z327; (try k_sweep)))
  (k_with "call ref" => (k_here; (with_reducible show wpAny _ _ (call (Value.ref 68) [Value.ref _, Value.int _ _]) _ _ _); k_dflt (refine' row_use (xs := [_, _, _, _, _, _, _]) ?hh_z328 ?hdp_z328 ?F_z328 ?X_z328 ?T_z328 ?N_z328 ?U_z328 ?hoff_z328 ?hT_z328 ?hxs_z328 ?hc_z328 ?hi_z328 ?hne_z328 ?hx_z328 ?hk0_z328 ?hk1_z328 ?hm0_z328 ?hm1_z328 ?hl0_z328 ?hl1_z328 ?_); (case hh_z328 => with_unfolding_all exact rfl); (case hdp_z328 => ((try simp only [depth_under_make, depth_under_kw, depth_in1, depth_deeper, depth_caller]); (try dsimp only [Ar]); first | omega | decide)); (case F_z328 => k_asm); (case X_z328 => k_asm); (case T_z328 => k_asm); (case N_z328 => k_asm); (case U_z328 => k_updF); (case hoff_z328 => assumption); (case hT_z328 => (intro o'_z328; exact .cons (.cons (.cons (.cons (.cons (.cons (.cons .here)))))))); (case hxs_z328 => (repeat (first | with_unfolding_all exact List.forall_mem_nil _ | (refine' List.forall_mem_cons.mpr ⟨⟨_, ?q_z328⟩, ?_⟩; (case q_z328 => k_dflt k_mem))))); (case hc_z328 => (refine' News.isList ?z1_z328 ?z2_z328; (case z1_z328 => k_asm); (case z2_z328 => k_dflt k_mem))); (case hi_z328 => assumption); (case hne_z328 => first | assumption | k_ne); (case hx_z328 => first | assumption | omega); (case hk0_z328 => first | assumption | omega); (case hk1_z328 => omega); (case hm0_z328 => omega); (case hm1_z328 => omega); (case hl0_z328 => assumption); (case hl1_z328 => assumption); k_whole; intro r_z328 row_z328 x'_z328 tx'_z328 k'_z328 tk'_z328 n'_z328 h'_z328 tk₁_z328 rest'_z328 F'_z328 N'_z328 hoff'_z328 hsub_z328 hrow_z328 hx'_z328 hk0'_z328 hk1'_z328; (try k_sweep)))
  (k_with "call ref" => (k_here; (with_reducible show wpAny _ _ (call (Value.ref 68) [Value.ref _, Value.int _ _]) _ _ _); k_dflt (refine' row_use (xs := [_, _, _, _, _, _, _]) ?hh_z329 ?hdp_z329 ?F_z329 ?X_z329 ?T_z329 ?N_z329 ?U_z329 ?hoff_z329 ?hT_z329 ?hxs_z329 ?hc_z329 ?hi_z329 ?hne_z329 ?hx_z329 ?hk0_z329 ?hk1_z329 ?hm0_z329 ?hm1_z329 ?hl0_z329 ?hl1_z329 ?_); (case hh_z329 => with_unfolding_all exact rfl); (case hdp_z329 => ((try simp only [depth_under_make, depth_under_kw, depth_in1, depth_deeper, depth_caller]); (try dsimp only [Ar]); first | omega | decide)); (case F_z329 => k_asm); (case X_z329 => k_asm); (case T_z329 => k_asm); (case N_z329 => k_asm); (case U_z329 => k_updF); (case hoff_z329 => assumption); (case hT_z329 => (intro o'_z329; exact .cons (.cons (.cons (.cons (.cons (.cons (.cons .here)))))))); (case hxs_z329 => (repeat (first | with_unfolding_all exact List.forall_mem_nil _ | (refine' List.forall_mem_cons.mpr ⟨⟨_, ?q_z329⟩, ?_⟩; (case q_z329 => k_dflt k_mem))))); (case hc_z329 => (refine' News.isList ?z1_z329 ?z2_z329; (case z1_z329 => k_asm); (case z2_z329 => k_dflt k_mem))); (case hi_z329 => assumption); (case hne_z329 => first | assumption | k_ne); (case hx_z329 => first | assumption | omega); (case hk0_z329 => first | assumption | omega); (case hk1_z329 => omega); (case hm0_z329 => omega); (case hm1_z329 => omega); (case hl0_z329 => assumption); (case hl1_z329 => assumption); k_whole; intro r_z329 row_z329 x'_z329 tx'_z329 k'_z329 tk'_z329 n'_z329 h'_z329 tk₁_z329 rest'_z329 F'_z329 N'_z329 hoff'_z329 hsub_z329 hrow_z329 hx'_z329 hk0'_z329 hk1'_z329; (try k_sweep)))
  (k_with "call ref" => (k_here; (with_reducible show wpAny _ _ (call (Value.ref 68) [Value.ref _, Value.int _ _]) _ _ _); k_dflt (refine' row_use (xs := [_, _, _, _, _, _, _]) ?hh_z330 ?hdp_z330 ?F_z330 ?X_z330 ?T_z330 ?N_z330 ?U_z330 ?hoff_z330 ?hT_z330 ?hxs_z330 ?hc_z330 ?hi_z330 ?hne_z330 ?hx_z330 ?hk0_z330 ?hk1_z330 ?hm0_z330 ?hm1_z330 ?hl0_z330 ?hl1_z330 ?_); (case hh_z330 => with_unfolding_all exact rfl); (case hdp_z330 => ((try simp only [depth_under_make, depth_under_kw, depth_in1, depth_deeper, depth_caller]); (try dsimp only [Ar]); first | omega | decide)); (case F_z330 => k_asm); (case X_z330 => k_asm); (case T_z330 => k_asm); (case N_z330 => k_asm); (case U_z330 => k_updF); (case hoff_z330 => assumption); (case hT_z330 => (intro o'_z330; exact .cons (.cons (.cons (.cons (.cons (.cons (.cons .here)))))))); (case hxs_z330 => (repeat (first | with_unfolding_all exact List.forall_mem_nil _ | (refine' List.forall_mem_cons.mpr ⟨⟨_, ?q_z330⟩, ?_⟩; (case q_z330 => k_dflt k_mem))))); (case hc_z330 => (refine' News.isList ?z1_z330 ?z2_z330; (case z1_z330 => k_asm); (case z2_z330 => k_dflt k_mem))); (case hi_z330 => assumption); (case hne_z330 => first | assumption | k_ne); (case hx_z330 => first | assumption | omega); (case hk0_z330 => first | assumption | omega); (case hk1_z330 => omega); (case hm0_z330 => omega); (case hm1_z330 => omega); (case hl0_z330 => assumption); (case hl1_z330 => assumption); k_whole; intro r_z330 row_z330 x'_z330 tx'_z330 k'_z330 tk'_z330 n'_z330 h'_z330 tk₁_z330 rest'_z330 F'_z330 N'_z330 hoff'_z330 hsub_z330 hrow_z330 hx'_z330 hk0'_z330 hk1'_z330; (try k_sweep)))
  (k_with "call ref" => (k_here; (with_reducible show wpAny _ _ (call (Value.ref 68) [Value.ref _, Value.int _ _]) _ _ _); k_dflt (refine' row_use (xs := [_, _, _, _, _, _, _]) ?hh_z331 ?hdp_z331 ?F_z331 ?X_z331 ?T_z331 ?N_z331 ?U_z331 ?hoff_z331 ?hT_z331 ?hxs_z331 ?hc_z331 ?hi_z331 ?hne_z331 ?hx_z331 ?hk0_z331 ?hk1_z331 ?hm0_z331 ?hm1_z331 ?hl0_z331 ?hl1_z331 ?_); (case hh_z331 => with_unfolding_all exact rfl); (case hdp_z331 => ((try simp only [depth_under_make, depth_under_kw, depth_in1, depth_deeper, depth_caller]); (try dsimp only [Ar]); first | omega | decide)); (case F_z331 => k_asm); (case X_z331 => k_asm); (case T_z331 => k_asm); (case N_z331 => k_asm); (case U_z331 => k_updF); (case hoff_z331 => assumption); (case hT_z331 => (intro o'_z331; exact .cons (.cons (.cons (.cons (.cons (.cons (.cons .here)))))))); (case hxs_z331 => (repeat (first | with_unfolding_all exact List.forall_mem_nil _ | (refine' List.forall_mem_cons.mpr ⟨⟨_, ?q_z331⟩, ?_⟩; (case q_z331 => k_dflt k_mem))))); (case hc_z331 => (refine' News.isList ?z1_z331 ?z2_z331; (case z1_z331 => k_asm); (case z2_z331 => k_dflt k_mem))); (case hi_z331 => assumption); (case hne_z331 => first | assumption | k_ne); (case hx_z331 => first | assumption | omega); (case hk0_z331 => first | assumption | omega); (case hk1_z331 => omega); (case hm0_z331 => omega); (case hm1_z331 => omega); (case hl0_z331 => assumption); (case hl1_z331 => assumption); k_whole; intro r_z331 row_z331 x'_z331 tx'_z331 k'_z331 tk'_z331 n'_z331 h'_z331 tk₁_z331 rest'_z331 F'_z331 N'_z331 hoff'_z331 hsub_z331 hrow_z331 hx'_z331 hk0'_z331 hk1'_z331; (try k_sweep)))
  (k_with "call ref" => (k_here; (with_reducible show wpAny _ _ (call (Value.ref 68) [Value.ref _, Value.int _ _]) _ _ _); k_dflt (refine' row_use (xs := [_, _, _, _, _, _, _]) ?hh_z332 ?hdp_z332 ?F_z332 ?X_z332 ?T_z332 ?N_z332 ?U_z332 ?hoff_z332 ?hT_z332 ?hxs_z332 ?hc_z332 ?hi_z332 ?hne_z332 ?hx_z332 ?hk0_z332 ?hk1_z332 ?hm0_z332 ?hm1_z332 ?hl0_z332 ?hl1_z332 ?_); (case hh_z332 => with_unfolding_all exact rfl); (case hdp_z332 => ((try simp only [depth_under_make, depth_under_kw, depth_in1, depth_deeper, depth_caller]); (try dsimp only [Ar]); first | omega | decide)); (case F_z332 => k_asm); (case X_z332 => k_asm); (case T_z332 => k_asm); (case N_z332 => k_asm); (case U_z332 => k_updF); (case hoff_z332 => assumption); (case hT_z332 => (intro o'_z332; exact .cons (.cons (.cons (.cons (.cons (.cons (.cons .here)))))))); (case hxs_z332 => (repeat (first | with_unfolding_all exact List.forall_mem_nil _ | (refine' List.forall_mem_cons.mpr ⟨⟨_, ?q_z332⟩, ?_⟩; (case q_z332 => k_dflt k_mem))))); (case hc_z332 => (refine' News.isList ?z1_z332 ?z2_z332; (case z1_z332 => k_asm); (case z2_z332 => k_dflt k_mem))); (case hi_z332 => assumption); (case hne_z332 => first | assumption | k_ne); (case hx_z332 => first | assumption | omega); (case hk0_z332 => first | assumption | omega); (case hk1_z332 => omega); (case hm0_z332 => omega); (case hm1_z332 => omega); (case hl0_z332 => assumption); (case hl1_z332 => assumption); k_whole; intro r_z332 row_z332 x'_z332 tx'_z332 k'_z332 tk'_z332 n'_z332 h'_z332 tk₁_z332 rest'_z332 F'_z332 N'_z332 hoff'_z332 hsub_z332 hrow_z332 hx'_z332 hk0'_z332 hk1'_z332; (try k_sweep)))
  (k_with "call ref" => (k_here; (with_reducible show wpAny _ _ (call (Value.ref 68) [Value.ref _, Value.int _ _]) _ _ _); k_dflt (refine' row_use (xs := [_, _, _, _, _, _, _]) ?hh_z333 ?hdp_z333 ?F_z333 ?X_z333 ?T_z333 ?N_z333 ?U_z333 ?hoff_z333 ?hT_z333 ?hxs_z333 ?hc_z333 ?hi_z333 ?hne_z333 ?hx_z333 ?hk0_z333 ?hk1_z333 ?hm0_z333 ?hm1_z333 ?hl0_z333 ?hl1_z333 ?_); (case hh_z333 => with_unfolding_all exact rfl); (case hdp_z333 => ((try simp only [depth_under_make, depth_under_kw, depth_in1, depth_deeper, depth_caller]); (try dsimp only [Ar]); first | omega | decide)); (case F_z333 => k_asm); (case X_z333 => k_asm); (case T_z333 => k_asm); (case N_z333 => k_asm); (case U_z333 => k_updF); (case hoff_z333 => assumption); (case hT_z333 => (intro o'_z333; exact .cons (.cons (.cons (.cons (.cons (.cons (.cons .here)))))))); (case hxs_z333 => (repeat (first | with_unfolding_all exact List.forall_mem_nil _ | (refine' List.forall_mem_cons.mpr ⟨⟨_, ?q_z333⟩, ?_⟩; (case q_z333 => k_dflt k_mem))))); (case hc_z333 => (refine' News.isList ?z1_z333 ?z2_z333; (case z1_z333 => k_asm); (case z2_z333 => k_dflt k_mem))); (case hi_z333 => assumption); (case hne_z333 => first | assumption | k_ne); (case hx_z333 => first | assumption | omega); (case hk0_z333 => first | assumption | omega); (case hk1_z333 => omega); (case hm0_z333 => omega); (case hm1_z333 => omega); (case hl0_z333 => assumption); (case hl1_z333 => assumption); k_whole; intro r_z333 row_z333 x'_z333 tx'_z333 k'_z333 tk'_z333 n'_z333 h'_z333 tk₁_z333 rest'_z333 F'_z333 N'_z333 hoff'_z333 hsub_z333 hrow_z333 hx'_z333 hk0'_z333 hk1'_z333; (try k_sweep)))
  (k_with "call ref" => (k_here; (with_reducible show wpAny _ _ (call (Value.ref 75) [_]) _ _ _); (with_unfolding_all refine' named_useL (xs := [_, _]) ?hh_z334 ?hdp_z334 ?F_z334 ?X_z334 ?T_z334 ?N_z334 ?hoff_z334 ?hT_z334 ?hxs_z334 ?hr_z334 ?_); (case hh_z334 => with_unfolding_all exact rfl); (case hdp_z334 => ((try simp only [depth_under_make, depth_under_kw, depth_in1, depth_deeper, depth_caller]); (try dsimp only [Ar]); first | omega | decide)); (case F_z334 => k_asm); (case X_z334 => k_asm); (case T_z334 => k_asm); (case N_z334 => k_asm); (case hoff_z334 => assumption); (case hT_z334 => exact .cons (.cons .here)); (case hxs_z334 => (repeat (first | with_unfolding_all exact List.forall_mem_nil _ | (refine' List.forall_mem_cons.mpr ⟨⟨_, ?q_z334⟩, ?_⟩; (case q_z334 => k_dflt k_mem))))); (case hr_z334 => assumption); k_whole; intro r_z334 its_z334 h'_z334 tk₁_z334 rest'_z334 F'_z334 N'_z334 hoff'_z334 hsub_z334 hsrc_z334 hits_z334; (try k_sweep)))
  (k_with "call ref" => (k_here; (with_reducible show wpAny _ _ (call (Value.ref 75) [_]) _ _ _); (with_unfolding_all refine' named_useL (xs := [_, _]) ?hh_z335 ?hdp_z335 ?F_z335 ?X_z335 ?T_z335 ?N_z335 ?hoff_z335 ?hT_z335 ?hxs_z335 ?hr_z335 ?_); (case hh_z335 => with_unfolding_all exact rfl); (case hdp_z335 => ((try simp only [depth_under_make, depth_under_kw, depth_in1, depth_deeper, depth_caller]); (try dsimp only [Ar]); first | omega | decide)); (case F_z335 => k_asm); (case X_z335 => k_asm); (case T_z335 => k_asm); (case N_z335 => k_asm); (case hoff_z335 => assumption); (case hT_z335 => exact .cons (.cons .here)); (case hxs_z335 => (repeat (first | with_unfolding_all exact List.forall_mem_nil _ | (refine' List.forall_mem_cons.mpr ⟨⟨_, ?q_z335⟩, ?_⟩; (case q_z335 => k_dflt k_mem))))); (case hr_z335 => assumption); k_whole; intro r_z335 its_z335 h'_z335 tk₁_z335 rest'_z335 F'_z335 N'_z335 hoff'_z335 hsub_z335 hsrc_z335 hits_z335; (try k_sweep)))
  (k_with "call ref" => (k_here; (with_reducible show wpAny _ _ (call (Value.ref 75) [_]) _ _ _); (with_unfolding_all refine' named_useL (xs := [_, _]) ?hh_z336 ?hdp_z336 ?F_z336 ?X_z336 ?T_z336 ?N_z336 ?hoff_z336 ?hT_z336 ?hxs_z336 ?hr_z336 ?_); (case hh_z336 => with_unfolding_all exact rfl); (case hdp_z336 => ((try simp only [depth_under_make, depth_under_kw, depth_in1, depth_deeper, depth_caller]); (try dsimp only [Ar]); first | omega | decide)); (case F_z336 => k_asm); (case X_z336 => k_asm); (case T_z336 => k_asm); (case N_z336 => k_asm); (case hoff_z336 => assumption); (case hT_z336 => exact .cons (.cons .here)); (case hxs_z336 => (repeat (first | with_unfolding_all exact List.forall_mem_nil _ | (refine' List.forall_mem_cons.mpr ⟨⟨_, ?q_z336⟩, ?_⟩; (case q_z336 => k_dflt k_mem))))); (case hr_z336 => assumption); k_whole; intro r_z336 its_z336 h'_z336 tk₁_z336 rest'_z336 F'_z336 N'_z336 hoff'_z336 hsub_z336 hsrc_z336 hits_z336; (try k_sweep)))
  (k_with "call ref" => (k_here; (with_reducible show wpAny _ _ (call (Value.ref 75) [_]) _ _ _); (with_unfolding_all refine' named_useL (xs := [_, _]) ?hh_z337 ?hdp_z337 ?F_z337 ?X_z337 ?T_z337 ?N_z337 ?hoff_z337 ?hT_z337 ?hxs_z337 ?hr_z337 ?_); (case hh_z337 => with_unfolding_all exact rfl); (case hdp_z337 => ((try simp only [depth_under_make, depth_under_kw, depth_in1, depth_deeper, depth_caller]); (try dsimp only [Ar]); first | omega | decide)); (case F_z337 => k_asm); (case X_z337 => k_asm); (case T_z337 => k_asm); (case N_z337 => k_asm); (case hoff_z337 => assumption); (case hT_z337 => exact .cons (.cons .here)); (case hxs_z337 => (repeat (first | with_unfolding_all exact List.forall_mem_nil _ | (refine' List.forall_mem_cons.mpr ⟨⟨_, ?q_z337⟩, ?_⟩; (case q_z337 => k_dflt k_mem))))); (case hr_z337 => assumption); k_whole; intro r_z337 its_z337 h'_z337 tk₁_z337 rest'_z337 F'_z337 N'_z337 hoff'_z337 hsub_z337 hsrc_z337 hits_z337; (try k_sweep)))
  (k_with "call ref" => (k_here; (with_reducible show wpAny _ _ (call (Value.ref 75) [_]) _ _ _); (with_unfolding_all refine' named_useL (xs := [_, _]) ?hh_z338 ?hdp_z338 ?F_z338 ?X_z338 ?T_z338 ?N_z338 ?hoff_z338 ?hT_z338 ?hxs_z338 ?hr_z338 ?_); (case hh_z338 => with_unfolding_all exact rfl); (case hdp_z338 => ((try simp only [depth_under_make, depth_under_kw, depth_in1, depth_deeper, depth_caller]); (try dsimp only [Ar]); first | omega | decide)); (case F_z338 => k_asm); (case X_z338 => k_asm); (case T_z338 => k_asm); (case N_z338 => k_asm); (case hoff_z338 => assumption); (case hT_z338 => exact .cons (.cons .here)); (case hxs_z338 => (repeat (first | with_unfolding_all exact List.forall_mem_nil _ | (refine' List.forall_mem_cons.mpr ⟨⟨_, ?q_z338⟩, ?_⟩; (case q_z338 => k_dflt k_mem))))); (case hr_z338 => assumption); k_whole; intro r_z338 its_z338 h'_z338 tk₁_z338 rest'_z338 F'_z338 N'_z338 hoff'_z338 hsub_z338 hsrc_z338 hits_z338; (try k_sweep)))
  (k_with "call ref" => (k_here; (with_reducible show wpAny _ _ (call (Value.ref 75) [_]) _ _ _); (with_unfolding_all refine' named_useL (xs := [_, _]) ?hh_z339 ?hdp_z339 ?F_z339 ?X_z339 ?T_z339 ?N_z339 ?hoff_z339 ?hT_z339 ?hxs_z339 ?hr_z339 ?_); (case hh_z339 => with_unfolding_all exact rfl); (case hdp_z339 => ((try simp only [depth_under_make, depth_under_kw, depth_in1, depth_deeper, depth_caller]); (try dsimp only [Ar]); first | omega | decide)); (case F_z339 => k_asm); (case X_z339 => k_asm); (case T_z339 => k_asm); (case N_z339 => k_asm); (case hoff_z339 => assumption); (case hT_z339 => exact .cons (.cons .here)); (case hxs_z339 => (repeat (first | with_unfolding_all exact List.forall_mem_nil _ | (refine' List.forall_mem_cons.mpr ⟨⟨_, ?q_z339⟩, ?_⟩; (case q_z339 => k_dflt k_mem))))); (case hr_z339 => assumption); k_whole; intro r_z339 its_z339 h'_z339 tk₁_z339 rest'_z339 F'_z339 N'_z339 hoff'_z339 hsub_z339 hsrc_z339 hits_z339; (try k_sweep)))
  (k_with "call ref" => (k_here; (with_reducible show wpAny _ _ (call (Value.ref 56) [_]) _ _ _); (with_unfolding_all refine' cc_use (xs := [_]) ?hh_z340 ?hdp_z340 ?hun_z340 ?F_z340 ?X_z340 ?T_z340 ?N_z340 ?hoff_z340 ?hT_z340 ?hxs_z340 ?hc_z340 ?hr_z340 ?hl_z340 ?_); (case hh_z340 => with_unfolding_all exact rfl); (case hdp_z340 => ((try simp only [depth_under_make, depth_under_kw, depth_in1, depth_deeper, depth_caller]); (try dsimp only [Ar]); first | omega | decide)); (case hun_z340 => ((try simp only [units_in1, units_deeper, units_caller]); (try dsimp only [Ar]); first | omega | decide)); (case F_z340 => k_asm); (case X_z340 => k_asm); (case T_z340 => k_asm); (case N_z340 => k_asm); (case hoff_z340 => assumption); (case hT_z340 => exact .cons .here); (case hxs_z340 => (repeat (first | with_unfolding_all exact List.forall_mem_nil _ | (refine' List.forall_mem_cons.mpr ⟨⟨_, ?q_z340⟩, ?_⟩; (case q_z340 => k_dflt k_mem))))); (case hc_z340 => assumption); (case hr_z340 => assumption); (case hl_z340 => omega); k_whole; intro r_z340 out_z340 n_z340 h'_z340 tk₁_z340 rest'_z340 F'_z340 N'_z340 hoff'_z340 hsub_z340 hfa_z340 hgo_z340; (try k_sweep)))
  (k_with "call ref" => (k_here; (with_reducible show wpAny _ _ (call (Value.ref 56) [_]) _ _ _); (with_unfolding_all refine' cc_use (xs := [_]) ?hh_z341 ?hdp_z341 ?hun_z341 ?F_z341 ?X_z341 ?T_z341 ?N_z341 ?hoff_z341 ?hT_z341 ?hxs_z341 ?hc_z341 ?hr_z341 ?hl_z341 ?_); (case hh_z341 => with_unfolding_all exact rfl); (case hdp_z341 => ((try simp only [depth_under_make, depth_under_kw, depth_in1, depth_deeper, depth_caller]); (try dsimp only [Ar]); first | omega | decide)); (case hun_z341 => ((try simp only [units_in1, units_deeper, units_caller]); (try dsimp only [Ar]); first | omega | decide)); (case F_z341 => k_asm); (case X_z341 => k_asm); (case T_z341 => k_asm); (case N_z341 => k_asm); (case hoff_z341 => assumption); (case hT_z341 => exact .cons .here); (case hxs_z341 => (repeat (first | with_unfolding_all exact List.forall_mem_nil _ | (refine' List.forall_mem_cons.mpr ⟨⟨_, ?q_z341⟩, ?_⟩; (case q_z341 => k_dflt k_mem))))); (case hc_z341 => assumption); (case hr_z341 => assumption); (case hl_z341 => omega); k_whole; intro r_z341 out_z341 n_z341 h'_z341 tk₁_z341 rest'_z341 F'_z341 N'_z341 hoff'_z341 hsub_z341 hfa_z341 hgo_z341; (try k_sweep)))
  (k_with "call ref" => (k_here; (with_reducible show wpAny _ _ (call (Value.ref 56) [_]) _ _ _); (with_unfolding_all refine' cc_use (xs := [_]) ?hh_z342 ?hdp_z342 ?hun_z342 ?F_z342 ?X_z342 ?T_z342 ?N_z342 ?hoff_z342 ?hT_z342 ?hxs_z342 ?hc_z342 ?hr_z342 ?hl_z342 ?_); (case hh_z342 => with_unfolding_all exact rfl); (case hdp_z342 => ((try simp only [depth_under_make, depth_under_kw, depth_in1, depth_deeper, depth_caller]); (try dsimp only [Ar]); first | omega | decide)); (case hun_z342 => ((try simp only [units_in1, units_deeper, units_caller]); (try dsimp only [Ar]); first | omega | decide)); (case F_z342 => k_asm); (case X_z342 => k_asm); (case T_z342 => k_asm); (case N_z342 => k_asm); (case hoff_z342 => assumption); (case hT_z342 => exact .cons .here); (case hxs_z342 => (repeat (first | with_unfolding_all exact List.forall_mem_nil _ | (refine' List.forall_mem_cons.mpr ⟨⟨_, ?q_z342⟩, ?_⟩; (case q_z342 => k_dflt k_mem))))); (case hc_z342 => assumption); (case hr_z342 => assumption); (case hl_z342 => omega); k_whole; intro r_z342 out_z342 n_z342 h'_z342 tk₁_z342 rest'_z342 F'_z342 N'_z342 hoff'_z342 hsub_z342 hfa_z342 hgo_z342; (try k_sweep)))
  (k_with "call ref" => (k_here; (with_reducible show wpAny _ _ (call (Value.ref 56) [_]) _ _ _); (with_unfolding_all refine' cc_use (xs := [_]) ?hh_z343 ?hdp_z343 ?hun_z343 ?F_z343 ?X_z343 ?T_z343 ?N_z343 ?hoff_z343 ?hT_z343 ?hxs_z343 ?hc_z343 ?hr_z343 ?hl_z343 ?_); (case hh_z343 => with_unfolding_all exact rfl); (case hdp_z343 => ((try simp only [depth_under_make, depth_under_kw, depth_in1, depth_deeper, depth_caller]); (try dsimp only [Ar]); first | omega | decide)); (case hun_z343 => ((try simp only [units_in1, units_deeper, units_caller]); (try dsimp only [Ar]); first | omega | decide)); (case F_z343 => k_asm); (case X_z343 => k_asm); (case T_z343 => k_asm); (case N_z343 => k_asm); (case hoff_z343 => assumption); (case hT_z343 => exact .cons .here); (case hxs_z343 => (repeat (first | with_unfolding_all exact List.forall_mem_nil _ | (refine' List.forall_mem_cons.mpr ⟨⟨_, ?q_z343⟩, ?_⟩; (case q_z343 => k_dflt k_mem))))); (case hc_z343 => assumption); (case hr_z343 => assumption); (case hl_z343 => omega); k_whole; intro r_z343 out_z343 n_z343 h'_z343 tk₁_z343 rest'_z343 F'_z343 N'_z343 hoff'_z343 hsub_z343 hfa_z343 hgo_z343; (try k_sweep)))
  (k_with "call ref" => (k_here; (with_reducible show wpAny _ _ (call (Value.ref 56) [_]) _ _ _); (with_unfolding_all refine' cc_use (xs := [_]) ?hh_z344 ?hdp_z344 ?hun_z344 ?F_z344 ?X_z344 ?T_z344 ?N_z344 ?hoff_z344 ?hT_z344 ?hxs_z344 ?hc_z344 ?hr_z344 ?hl_z344 ?_); (case hh_z344 => with_unfolding_all exact rfl); (case hdp_z344 => ((try simp only [depth_under_make, depth_under_kw, depth_in1, depth_deeper, depth_caller]); (try dsimp only [Ar]); first | omega | decide)); (case hun_z344 => ((try simp only [units_in1, units_deeper, units_caller]); (try dsimp only [Ar]); first | omega | decide)); (case F_z344 => k_asm); (case X_z344 => k_asm); (case T_z344 => k_asm); (case N_z344 => k_asm); (case hoff_z344 => assumption); (case hT_z344 => exact .cons .here); (case hxs_z344 => (repeat (first | with_unfolding_all exact List.forall_mem_nil _ | (refine' List.forall_mem_cons.mpr ⟨⟨_, ?q_z344⟩, ?_⟩; (case q_z344 => k_dflt k_mem))))); (case hc_z344 => assumption); (case hr_z344 => assumption); (case hl_z344 => omega); k_whole; intro r_z344 out_z344 n_z344 h'_z344 tk₁_z344 rest'_z344 F'_z344 N'_z344 hoff'_z344 hsub_z344 hfa_z344 hgo_z344; (try k_sweep)))
  (k_with "call ref" => (k_here; (with_reducible show wpAny _ _ (call (Value.ref 56) [_]) _ _ _); (with_unfolding_all refine' cc_use (xs := [_]) ?hh_z345 ?hdp_z345 ?hun_z345 ?F_z345 ?X_z345 ?T_z345 ?N_z345 ?hoff_z345 ?hT_z345 ?hxs_z345 ?hc_z345 ?hr_z345 ?hl_z345 ?_); (case hh_z345 => with_unfolding_all exact rfl); (case hdp_z345 => ((try simp only [depth_under_make, depth_under_kw, depth_in1, depth_deeper, depth_caller]); (try dsimp only [Ar]); first | omega | decide)); (case hun_z345 => ((try simp only [units_in1, units_deeper, units_caller]); (try dsimp only [Ar]); first | omega | decide)); (case F_z345 => k_asm); (case X_z345 => k_asm); (case T_z345 => k_asm); (case N_z345 => k_asm); (case hoff_z345 => assumption); (case hT_z345 => exact .cons .here); (case hxs_z345 => (repeat (first | with_unfolding_all exact List.forall_mem_nil _ | (refine' List.forall_mem_cons.mpr ⟨⟨_, ?q_z345⟩, ?_⟩; (case q_z345 => k_dflt k_mem))))); (case hc_z345 => assumption); (case hr_z345 => assumption); (case hl_z345 => omega); k_whole; intro r_z345 out_z345 n_z345 h'_z345 tk₁_z345 rest'_z345 F'_z345 N'_z345 hoff'_z345 hsub_z345 hfa_z345 hgo_z345; (try k_sweep)))
  (k_with "subscriptTail" => (k_here; (with_reducible show wpAny _ _ (subscriptTail _ _ (Value.ref _) (Value.int _ _)) _ _ _); k_dflt (refine' item_lst (News.isList ?hl_z346 ?hm_z346) ?h0_z346 ?h1_z346 ?hx_z346 ?_ ?hs_z346); (case hl_z346 => k_asm); (case hm_z346 => k_dflt k_mem); (case h0_z346 => omega); (case h1_z346 => omega); (case hx_z346 => k_dflt assumption); (case hs_z346 => with_unfolding_all rfl)))
  (k_with "subscriptTail" => (k_here; (with_reducible show wpAny _ _ (subscriptTail _ _ (Value.ref _) (Value.int _ _)) _ _ _); k_dflt (refine' item_lst (News.isList ?hl_z347 ?hm_z347) ?h0_z347 ?h1_z347 ?hx_z347 ?_ ?hs_z347); (case hl_z347 => k_asm); (case hm_z347 => k_dflt k_mem); (case h0_z347 => omega); (case h1_z347 => omega); (case hx_z347 => k_dflt assumption); (case hs_z347 => with_unfolding_all rfl)))
  (k_with "subscriptTail" => (k_here; (with_reducible show wpAny _ _ (subscriptTail _ _ (Value.ref _) (Value.int _ _)) _ _ _); k_dflt (refine' item_lst (News.isList ?hl_z348 ?hm_z348) ?h0_z348 ?h1_z348 ?hx_z348 ?_ ?hs_z348); (case hl_z348 => k_asm); (case hm_z348 => k_dflt k_mem); (case h0_z348 => omega); (case h1_z348 => omega); (case hx_z348 => k_dflt assumption); (case hs_z348 => with_unfolding_all rfl)))
  (k_with "subscriptTail" => (k_here; (with_reducible show wpAny _ _ (subscriptTail _ _ (Value.ref _) (Value.int _ _)) _ _ _); k_dflt (refine' item_lst (News.isList ?hl_z349 ?hm_z349) ?h0_z349 ?h1_z349 ?hx_z349 ?_ ?hs_z349); (case hl_z349 => k_asm); (case hm_z349 => k_dflt k_mem); (case h0_z349 => omega); (case h1_z349 => omega); (case hx_z349 => k_dflt assumption); (case hs_z349 => with_unfolding_all rfl)))
  (k_with "subscriptTail" => (k_here; (with_reducible show wpAny _ _ (subscriptTail _ _ (Value.ref _) (Value.int _ _)) _ _ _); k_dflt (refine' item_lst (News.isList ?hl_z350 ?hm_z350) ?h0_z350 ?h1_z350 ?hx_z350 ?_ ?hs_z350); (case hl_z350 => k_asm); (case hm_z350 => k_dflt k_mem); (case h0_z350 => omega); (case h1_z350 => omega); (case hx_z350 => k_dflt assumption); (case hs_z350 => with_unfolding_all rfl)))
  (k_with "subscriptTail" => (k_here; (with_reducible show wpAny _ _ (subscriptTail _ _ (Value.ref _) (Value.int _ _)) _ _ _); k_dflt (refine' item_lst (News.isList ?hl_z351 ?hm_z351) ?h0_z351 ?h1_z351 ?hx_z351 ?_ ?hs_z351); (case hl_z351 => k_asm); (case hm_z351 => k_dflt k_mem); (case h0_z351 => omega); (case h1_z351 => omega); (case hx_z351 => k_dflt assumption); (case hs_z351 => with_unfolding_all rfl)))
  (k_with "subscriptTail" => (k_here; (with_reducible show wpAny _ _ (subscriptTail _ _ (Value.ref _) (Value.int 0 _)) _ _ _); k_dflt (refine' item_first (News.isTup ?F_z352 ?t_z352) ?_ ?hs_z352 ?hg_z352); (case F_z352 => k_asm); (case t_z352 => k_dflt k_mem); (case hs_z352 => with_unfolding_all rfl); (case hg_z352 => (intro _; with_unfolding_all rfl))))
  (k_with "subscriptTail" => (k_here; (with_reducible show wpAny _ _ (subscriptTail _ _ (Value.ref _) (Value.int 0 _)) _ _ _); k_dflt (refine' item_first (News.isTup ?F_z353 ?t_z353) ?_ ?hs_z353 ?hg_z353); (case F_z353 => k_asm); (case t_z353 => k_dflt k_mem); (case hs_z353 => with_unfolding_all rfl); (case hg_z353 => (intro _; with_unfolding_all rfl))))
  (k_with "subscriptTail" => (k_here; (with_reducible show wpAny _ _ (subscriptTail _ _ (Value.ref _) (Value.int 0 _)) _ _ _); k_dflt (refine' item_first (News.isTup ?F_z354 ?t_z354) ?_ ?hs_z354 ?hg_z354); (case F_z354 => k_asm); (case t_z354 => k_dflt k_mem); (case hs_z354 => with_unfolding_all rfl); (case hg_z354 => (intro _; with_unfolding_all rfl))))
  (k_with "subscriptTail" => (k_here; (with_reducible show wpAny _ _ (subscriptTail _ _ (Value.ref _) (Value.int 0 _)) _ _ _); k_dflt (refine' item_first (News.isTup ?F_z355 ?t_z355) ?_ ?hs_z355 ?hg_z355); (case F_z355 => k_asm); (case t_z355 => k_dflt k_mem); (case hs_z355 => with_unfolding_all rfl); (case hg_z355 => (intro _; with_unfolding_all rfl))))
  (k_with "subscriptTail" => (k_here; (with_reducible show wpAny _ _ (subscriptTail _ _ (Value.ref _) (Value.int 0 _)) _ _ _); k_dflt (refine' item_first (News.isTup ?F_z356 ?t_z356) ?_ ?hs_z356 ?hg_z356); (case F_z356 => k_asm); (case t_z356 => k_dflt k_mem); (case hs_z356 => with_unfolding_all rfl); (case hg_z356 => (intro _; with_unfolding_all rfl))))
  (k_with "subscriptTail" => (k_here; (with_reducible show wpAny _ _ (subscriptTail _ _ (Value.ref _) (Value.int 0 _)) _ _ _); k_dflt (refine' item_first (News.isTup ?F_z357 ?t_z357) ?_ ?hs_z357 ?hg_z357); (case F_z357 => k_asm); (case t_z357 => k_dflt k_mem); (case hs_z357 => with_unfolding_all rfl); (case hg_z357 => (intro _; with_unfolding_all rfl))))
  (k_with "call builtin:list.append" => (k_here; (with_reducible show wpAny _ _ (call (Value.builtin _) [Value.ref _, _]) _ _ _); k_dflt (refine' append_K ?k1_z358 ?k2_z358 ?k3_z358 ?_ ?z_z358; (case k1_z358 => k_asm); (case k2_z358 => k_asm); (case k3_z358 => k_upd); (case z_z358 => (rw [PySem.sizeLine_eq]; simp only [List.size_toArray, List.length_append, List.length_singleton]; omega)); k_whole); intro h'_z358 F'_z358 N'_z358; (try simp only [List.push_toArray] at N'_z358); (try k_sweep)))
  (k_with "call builtin:list.append" => (k_here; (with_reducible show wpAny _ _ (call (Value.builtin _) [Value.ref _, _]) _ _ _); k_dflt (refine' append_K ?k1_z359 ?k2_z359 ?k3_z359 ?_ ?z_z359; (case k1_z359 => k_asm); (case k2_z359 => k_asm); (case k3_z359 => k_upd); (case z_z359 => (rw [PySem.sizeLine_eq]; simp only [List.size_toArray, List.length_append, List.length_singleton]; omega)); k_whole); intro h'_z359 F'_z359 N'_z359; (try simp only [List.push_toArray] at N'_z359); (try k_sweep)))
  (k_with "call builtin:list.append" => (k_here; (with_reducible show wpAny _ _ (call (Value.builtin _) [Value.ref _, _]) _ _ _); k_dflt (refine' append_K ?k1_z360 ?k2_z360 ?k3_z360 ?_ ?z_z360; (case k1_z360 => k_asm); (case k2_z360 => k_asm); (case k3_z360 => k_upd); (case z_z360 => (rw [PySem.sizeLine_eq]; simp only [List.size_toArray, List.length_append, List.length_singleton]; omega)); k_whole); intro h'_z360 F'_z360 N'_z360; (try simp only [List.push_toArray] at N'_z360); (try k_sweep)))
  (k_with "call builtin:list.append" => (k_here; (with_reducible show wpAny _ _ (call (Value.builtin _) [Value.ref _, _]) _ _ _); k_dflt (refine' append_K ?k1_z361 ?k2_z361 ?k3_z361 ?_ ?z_z361; (case k1_z361 => k_asm); (case k2_z361 => k_asm); (case k3_z361 => k_upd); (case z_z361 => (rw [PySem.sizeLine_eq]; simp only [List.size_toArray, List.length_append, List.length_singleton]; omega)); k_whole); intro h'_z361 F'_z361 N'_z361; (try simp only [List.push_toArray] at N'_z361); (try k_sweep)))
  (k_with "call builtin:list.append" => (k_here; (with_reducible show wpAny _ _ (call (Value.builtin _) [Value.ref _, _]) _ _ _); k_dflt (refine' append_K ?k1_z362 ?k2_z362 ?k3_z362 ?_ ?z_z362; (case k1_z362 => k_asm); (case k2_z362 => k_asm); (case k3_z362 => k_upd); (case z_z362 => (rw [PySem.sizeLine_eq]; simp only [List.size_toArray, List.length_append, List.length_singleton]; omega)); k_whole); intro h'_z362 F'_z362 N'_z362; (try simp only [List.push_toArray] at N'_z362); (try k_sweep)))
  (k_with "call builtin:list.append" => (k_here; (with_reducible show wpAny _ _ (call (Value.builtin _) [Value.ref _, _]) _ _ _); k_dflt (refine' append_K ?k1_z363 ?k2_z363 ?k3_z363 ?_ ?z_z363; (case k1_z363 => k_asm); (case k2_z363 => k_asm); (case k3_z363 => k_upd); (case z_z363 => (rw [PySem.sizeLine_eq]; simp only [List.size_toArray, List.length_append, List.length_singleton]; omega)); k_whole); intro h'_z363 F'_z363 N'_z363; (try simp only [List.push_toArray] at N'_z363); (try k_sweep)))
  (k_with "compareOp NotIn str ref" => (k_here; k_dflt (refine' notin_words3 (News.get ?N_z364 ?a_z364) ?_; (case N_z364 => k_asm); (case a_z364 => k_mem))))
  (k_with "compareOp NotIn str ref" => (k_here; k_dflt (refine' notin_words3 (News.get ?N_z365 ?a_z365) ?_; (case N_z365 => k_asm); (case a_z365 => k_mem))))
  (k_with "compareOp NotIn str ref" => (k_here; k_dflt (refine' notin_words3 (News.get ?N_z366 ?a_z366) ?_; (case N_z366 => k_asm); (case a_z366 => k_mem))))
  (k_with "compareOp NotIn str ref" => (k_here; k_dflt (refine' notin_words3 (News.get ?N_z367 ?a_z367) ?_; (case N_z367 => k_asm); (case a_z367 => k_mem))))
  (k_with "compareOp NotIn str ref" => (k_here; k_dflt (refine' notin_words3 (News.get ?N_z368 ?a_z368) ?_; (case N_z368 => k_asm); (case a_z368 => k_mem))))
  (k_with "compareOp NotIn str ref" => (k_here; k_dflt (refine' notin_words3 (News.get ?N_z369 ?a_z369) ?_; (case N_z369 => k_asm); (case a_z369 => k_mem))))
  (k_with "compareOp NotEq ref ref" => (k_here; k_dflt (refine' ne_empty (News.get ?N_z370 ?a_z370) (News.get ?N2_z370 ?b_z370) ?u_z370 ?_; (case N_z370 => k_asm); (case a_z370 => k_mem); (case N2_z370 => k_asm); (case b_z370 => k_mem); (case u_z370 => ((have hcL'_z370 := cLine_is); simp only [units_in1, units_deeper, units_caller]; (try dsimp only [Ar]); omega)))))
  (k_with "compareOp NotEq ref ref" => (k_here; k_dflt (refine' ne_empty (News.get ?N_z371 ?a_z371) (News.get ?N2_z371 ?b_z371) ?u_z371 ?_; (case N_z371 => k_asm); (case a_z371 => k_mem); (case N2_z371 => k_asm); (case b_z371 => k_mem); (case u_z371 => ((have hcL'_z371 := cLine_is); simp only [units_in1, units_deeper, units_caller]; (try dsimp only [Ar]); omega)))))
  (k_with "compareOp NotEq ref ref" => (k_here; k_dflt (refine' ne_empty (News.get ?N_z372 ?a_z372) (News.get ?N2_z372 ?b_z372) ?u_z372 ?_; (case N_z372 => k_asm); (case a_z372 => k_mem); (case N2_z372 => k_asm); (case b_z372 => k_mem); (case u_z372 => ((have hcL'_z372 := cLine_is); simp only [units_in1, units_deeper, units_caller]; (try dsimp only [Ar]); omega)))))
  (k_with "compareOp NotEq ref ref" => (k_here; k_dflt (refine' ne_empty (News.get ?N_z373 ?a_z373) (News.get ?N2_z373 ?b_z373) ?u_z373 ?_; (case N_z373 => k_asm); (case a_z373 => k_mem); (case N2_z373 => k_asm); (case b_z373 => k_mem); (case u_z373 => ((have hcL'_z373 := cLine_is); simp only [units_in1, units_deeper, units_caller]; (try dsimp only [Ar]); omega)))))
  (k_with "compareOp NotEq ref ref" => (k_here; k_dflt (refine' ne_empty (News.get ?N_z374 ?a_z374) (News.get ?N2_z374 ?b_z374) ?u_z374 ?_; (case N_z374 => k_asm); (case a_z374 => k_mem); (case N2_z374 => k_asm); (case b_z374 => k_mem); (case u_z374 => ((have hcL'_z374 := cLine_is); simp only [units_in1, units_deeper, units_caller]; (try dsimp only [Ar]); omega)))))
  (k_with "compareOp NotEq ref ref" => (k_here; k_dflt (refine' ne_empty (News.get ?N_z375 ?a_z375) (News.get ?N2_z375 ?b_z375) ?u_z375 ?_; (case N_z375 => k_asm); (case a_z375 => k_mem); (case N2_z375 => k_asm); (case b_z375 => k_mem); (case u_z375 => ((have hcL'_z375 := cLine_is); simp only [units_in1, units_deeper, units_caller]; (try dsimp only [Ar]); omega)))))
  (k_with "compareOp Eq ref ref" => (k_here; k_dflt (refine' eq_empty (News.get ?N_z376 ?a_z376) (News.get ?N2_z376 ?b_z376) ?u_z376 ?_; (case N_z376 => k_asm); (case a_z376 => k_mem); (case N2_z376 => k_asm); (case b_z376 => k_mem); (case u_z376 => ((have hcL'_z376 := cLine_is); simp only [units_in1, units_deeper, units_caller]; (try dsimp only [Ar]); omega)))))
  (k_with "compareOp Eq ref ref" => (k_here; k_dflt (refine' eq_empty (News.get ?N_z377 ?a_z377) (News.get ?N2_z377 ?b_z377) ?u_z377 ?_; (case N_z377 => k_asm); (case a_z377 => k_mem); (case N2_z377 => k_asm); (case b_z377 => k_mem); (case u_z377 => ((have hcL'_z377 := cLine_is); simp only [units_in1, units_deeper, units_caller]; (try dsimp only [Ar]); omega)))))
  (k_with "compareOp Eq ref ref" => (k_here; k_dflt (refine' eq_empty (News.get ?N_z378 ?a_z378) (News.get ?N2_z378 ?b_z378) ?u_z378 ?_; (case N_z378 => k_asm); (case a_z378 => k_mem); (case N2_z378 => k_asm); (case b_z378 => k_mem); (case u_z378 => ((have hcL'_z378 := cLine_is); simp only [units_in1, units_deeper, units_caller]; (try dsimp only [Ar]); omega)))))
  (k_with "compareOp Eq ref ref" => (k_here; k_dflt (refine' eq_empty (News.get ?N_z379 ?a_z379) (News.get ?N2_z379 ?b_z379) ?u_z379 ?_; (case N_z379 => k_asm); (case a_z379 => k_mem); (case N2_z379 => k_asm); (case b_z379 => k_mem); (case u_z379 => ((have hcL'_z379 := cLine_is); simp only [units_in1, units_deeper, units_caller]; (try dsimp only [Ar]); omega)))))
  (k_with "compareOp Eq ref ref" => (k_here; k_dflt (refine' eq_empty (News.get ?N_z380 ?a_z380) (News.get ?N2_z380 ?b_z380) ?u_z380 ?_; (case N_z380 => k_asm); (case a_z380 => k_mem); (case N2_z380 => k_asm); (case b_z380 => k_mem); (case u_z380 => ((have hcL'_z380 := cLine_is); simp only [units_in1, units_deeper, units_caller]; (try dsimp only [Ar]); omega)))))
  (k_with "compareOp Eq ref ref" => (k_here; k_dflt (refine' eq_empty (News.get ?N_z381 ?a_z381) (News.get ?N2_z381 ?b_z381) ?u_z381 ?_; (case N_z381 => k_asm); (case a_z381 => k_mem); (case N2_z381 => k_asm); (case b_z381 => k_mem); (case u_z381 => ((have hcL'_z381 := cLine_is); simp only [units_in1, units_deeper, units_caller]; (try dsimp only [Ar]); omega)))))
  (k_with "compareOp Eq ref ref" => (k_here; (have _hm_z382 : Mark ∧ Mark := by assumption); clear _hm_z382; refine' halt ?_))
  refine hd ?_
  k_go0
  all_goals (try k_fold)
  k_steps
  unfold Halt
  rename IntsAre _ (List.take 40 _) => hI9
  obtain ⟨ns, hns, hl0, hl1⟩ := ints40 hI9
  clear hI9
  refine' draw_use ?hh ?hdp ?F ?X ?T ?N ?U ?hc ?hi ?hne ?hx ?hk0 ?hk1 ?hm0 ?hm1 ?hl0 ?hl1 ?_
  case hh => with_unfolding_all exact rfl
  case hdp => ((try simp only [depth_under_make, depth_under_kw, depth_in1, depth_deeper, depth_caller]); (try dsimp only [Ar]); first | omega | decide)
  case F => k_asm
  case X => k_asm
  case T => k_asm
  case N => k_asm
  case U => k_updF
  case hc => is_list
  case hi => assumption
  case hne => first | assumption | k_ne
  case hx => first | assumption | omega
  case hk0 => first | assumption | omega
  case hk1 => first | assumption | omega
  case hm0 => first | assumption | decide | omega
  case hm1 => first | assumption | decide | omega
  case hl0 => assumption
  case hl1 => assumption
  k_steps
  unfold Halt
  rename IsRange _ _ _ _ _ _ _ _ => hr'
  rename Fr _ _ _ _ => F9
  rename News _ _ _ _ => N9
  refine LCg.CompSrc.range rfl F9 (law_led N9) hr' (small_one (by omega) (by omega) (by omega) (by omega)) (rangeSize_nat _ _) (by rw [PySem.sizeLine_eq]; omega) ?_
  intro g'
  refine' compRest_inv (RwJ _ _ _ _ _ _ _ 1) (rw_start ?y1 ?y2 ?y3) ?turn ?fin
  case y1 => assumption
  case y2 => assumption
  case y3 => omega
  case turn =>
    intro i v I oI C oC D m₂ ys news h tk E' hi hv hJ hC hx' F' N' off ne
    obtain ⟨x, tx, k, tk2, n, rest, rows, e1, hoff, hx0, hk0, hk1, hrows, hri⟩ := hJ
    subst e1
    obtain ⟨t, e2⟩ := hv
    subst e2
    obtain ⟨op, oc, oa, ob, hoff7⟩ := rw_off off hoff
    clear off
    k_fold
    k_steps
    exact rw_next (by assumption) (by assumption) (by assumption) (by assumption) op oc oa ob (by assumption) (by assumption) (by omega) (by assumption) hrows hri
  case fin =>
    intro ys news hJ
    obtain ⟨x, tx, k, tk2, n, rest, rows, e1, hoff, hx0, hk0, hk1, hrows, hri⟩ := hJ
    subst e1
    have mark : Mark := .intro
    k_steps
    unfold Halt
    clear mark
    rename Fr _ _ _ _ => F9
    refine cut_rows F9 ?cutA ?cutB
    case cutA =>
      have hyl := hrows.1
      k_steps
      · refine CutRows.intro (by assumption) (by assumption) (.head _) ((hrows.mono fun _ _ _ e => ?_).snoc (RowAt.ende (.tail _ (.tail _ (.head _))))) ?_ rfl
        · exact .tail _ (.tail _ (.tail _ (.tail _ (.tail _ (.tail _ (.tail _ (.tail _ e)))))))
        · rw [List.length_append, List.length_singleton]; omega
      · refine CutRows.intro (by assumption) (by assumption) (.head _) (hrows.mono fun _ _ _ e => ?_) ?_ rfl
        · exact .tail _ (.tail _ (.tail _ (.tail _ (.tail _ e))))
        · omega
    case cutB =>
      clear hr' hoff hx0 hk0 hk1 hrows hri
      intro h' tk m₁ R vs nR rows rest F' N' hR hrs hrl hm1
      k_sweep
      obtain ⟨mo, e4⟩ := form1 hm1
      subst e4
      clear hm1
      show wpAny _ _ _ _ _ _
      try k_fold
      have hln := hrs.1
      k_steps
      unfold Halt
      rename IsRange _ _ _ _ _ _ _ _ => hr'
      refine' for_range (x := Str.ofString "at") (J := LwO R _ vs nR rows) ?hh hr' ?hb ?hn ?hx ?hp ?F ?N ?h0 ?turn ?done
      case hh => rfl
      case hb => rfl
      case hn => omega
      case hx => rfl
      case hp => rfl
      case F => assumption
      case N => assumption
      case h0 => (refine lwo_start (by assumption) hR hrs ?_ ?_ <;> rfl)
      case turn =>
        intro i t m₁ nx hp tk I oI hi hJ off F' N'
        k_sweep
        obtain ⟨fs, n, rest, e1, hoff, hR, hrs, hfs, hfl, e2, e3⟩ := hJ
        subst e1
        obtain ⟨mo, e4⟩ := form2 e2 e3
        subst e4
        clear e2 e3
        have q1 := neN (off _ (List.Mem.head _))
        replace hoff := Off.more hoff fun p hp => off p (.tail _ hp)
        obtain ⟨v, hv, hrow⟩ := hrs.at (hln ▸ hi)
        show wpAny _ _ _ _ _ _
        k_fold
        k_steps
        unfold Halt
        rename SrcLst _ _ _ _ => hsrc
        rename IntsAre _ _ => hits
        rename List Value => its
        rename Off _ _ => hoff'
        rename Sub _ _ => hsub
        have htwo := hrow.two
        have hitl := hits.length
        refine' for_list (x := Str.ofString "spot") (J := LwI _ _ _ _ _ _ _ rows i rows[i] _) ?hh ?hx ?hp ?F ?N ?h0 ?hS ?turn2 ?done2
        case hh => rfl
        case hx => rfl
        case hp => rfl
        case F => assumption
        case N => assumption
        case h0 => exact lwi_start hoff' hsrc hsub hfs hfl
        case hS => exact lwi_src
        case turn2 =>
          intro k v m₁ nx hp2 tk I2 oI2 hv2 hJ off2 F' N'
          k_sweep
          clear hfs hfl hoff hoff' hsrc
          obtain ⟨fs, n, rest2, e1, hoff, hsub2, hsrc, hfs, hfl, o', e5⟩ := hJ
          subst e1
          subst e5
          have q2 := neN (off2 _ (List.Mem.head _))
          have q3 := neN (off2 _ (List.Mem.tail _ (List.Mem.head _)))
          replace hoff := Off.more hoff fun p hp => off2 p (.tail _ (.tail _ hp))
          obtain ⟨tv, tt, e6, hv3⟩ := ints_get hits hv2
          subst e6
          have hk : k < its.length := (List.getElem?_eq_some_iff.mp hv2).1
          have hR2 := hsub2 _ (hsub _ hR)
          show wpAny _ _ _ _ _ _
          k_fold
          k_steps
          all_goals (
            rename News _ _ _ _ => N9
            first
              | (refine TurnEnd.intro _ (by assumption) N9 off2 ?_
                 exact lwi_no (hoff.sub (by simp)) hsub2 hsrc hfs hfl hv3 (by omega) (by omega))
              | (refine TurnEnd.intro _ (by assumption) (newsRot4 N9) (allNe (allNe (allNe (fun p hp => off2 p (.tail _ (.tail _ hp))) ?_) q3) q2) ?_
                 · k_ne
                 · refine lwi_yes (hoff.sub (by simp)) hsub2 hsrc hfs hfl hv3 (by omega) ?_ ?_ <;> omega))
        case done2 =>
          intro hp2 tk m₁ nx F' N' hJ
          k_sweep
          clear hfs hfl hoff hoff' hsrc
          obtain ⟨fs, n, rest2, e1, hoff, hsub2, hsrc, hfs, hfl, o', e5⟩ := hJ
          subst e1
          subst e5
          k_steps
          rename News _ _ _ _ => N9
          refine TurnEnd.intro _ (by assumption) N9 (allNe (hoff.ne (by simp)) q1) ?_
          exact lwo_next (hi := hln ▸ hi) hoff (hsub.trans hsub2) hR hrs hfs hfl hitl htwo rfl rfl
      case done =>
        intro hp tk m₁ nx F' N' hJ
        k_sweep
        obtain ⟨fs, n, rest, e1, hoff, hR, hrs, hfs, hfl, e2, e3⟩ := hJ
        subst e1
        obtain ⟨mo, e4⟩ := form2 e2 e3
        subst e4
        clear e2 e3
        have mark : Mark := .intro
        k_steps
        unfold Halt
        clear mark
        rename Fr _ _ _ _ => F9
        refine cut_due R vs nR rows F9 ?cutC ?cutD
        case cutC =>
          rcases List.eq_nil_or_concat vs with e0 | ⟨us, v, e0⟩
          · subst e0
            have e1 : rows = [] := List.eq_nil_of_length_eq_zero hln.symm
            subst e1
            k_steps
            all_goals (
              refine' CutDue.yes (by assumption) (by assumption) ?x1 ?x2 ?x3 ?x4 (by assumption) hR hrs hfs rfl rfl rfl
              case x1 => (repeat (first | exact List.Mem.head _ | refine List.Mem.tail _ ?_))
              case x2 => (repeat (first | exact List.Mem.head _ | refine List.Mem.tail _ ?_))
              case x3 => (intro p hp; repeat (first | exact hp | refine List.Mem.tail _ ?_))
              case x4 => omega)
          · rw [List.concat_eq_append] at e0
            have hv : vs[vs.length - 1]? = some v := by rw [e0]; simp
            have hpos : 0 < vs.length := by rw [e0]; simp
            have hv2 : vs[((vs.length : Int) - 1).toNat]? = some v := by
              have e : ((vs.length : Int) - 1).toNat = vs.length - 1 := by omega
              rw [e]; exact hv
            have hne : ¬ vs.toArray.size = 0 := by rw [List.size_toArray]; omega
            have hrow := hrs.2 _ _ _ hv (List.getElem?_eq_getElem (by omega))
            obtain ⟨a, t, xs, rfl, hnm⟩ := hrow.named
            k_steps
            · refine' CutDue.yes (by assumption) (by assumption) ?y1 ?y2 ?y3 ?y4 (by assumption) hR hrs hfs ?y5 rfl rfl
              case y1 => (repeat (first | exact List.Mem.head _ | refine List.Mem.tail _ ?_))
              case y2 => (repeat (first | exact List.Mem.head _ | refine List.Mem.tail _ ?_))
              case y3 => (intro p hp; repeat (first | exact hp | refine List.Mem.tail _ ?_))
              case y4 => omega
              case y5 => rw [endFault_last hln hpos, if_pos (by assumption)]
            · refine' CutDue.no (by assumption) (by assumption) ?z1 ?z3 (by assumption) hR hrs hfs ?z5 rfl rfl
              case z1 => (repeat (first | exact List.Mem.head _ | refine List.Mem.tail _ ?_))
              case z3 => (intro p hp; repeat (first | exact hp | refine List.Mem.tail _ ?_))
              case z5 => rw [endFault_last hln hpos, if_neg (Bool.eq_false_iff.mp (by assumption))]
        case cutD =>
          intro h' tk m₁ du fs n rest F' N' hoff hR hrs hfs e2 e3
          k_sweep
          obtain ⟨mo, e4⟩ := form2 e2 e3
          subst e4
          clear e2 e3
          show wpAny _ _ _ _ _ _
          try k_fold
          have hfl := hfs.length
          by_cases hd0 : due rows = []
          · have e5 : fs = [] := List.eq_nil_of_length_eq_zero (by rw [hfl, hd0]; rfl)
            subst e5
            k_steps
            unfold Halt
            refine' ls_use (S := InL _) ?hh ?hdp ?hun ?F ?X ?T ?N ?hS ?hc ?hr ?hl ?hd ?_
            case hh => with_unfolding_all exact rfl
            case hdp => ((try simp only [depth_under_make, depth_under_kw, depth_in1, depth_deeper, depth_caller]); (try dsimp only [Ar]); first | omega | decide)
            case hun => ((try simp only [units_in1, units_deeper, units_caller]); (try dsimp only [Ar]); first | omega | decide)
            case F => k_asm
            case X => k_asm
            case T => k_asm
            case N => k_asm
            case hc => assumption
            case hr => assumption
            case hS => (intro a o e; (repeat (first | (refine Sub.mem (by assumption) e; done) | refine List.Mem.tail _ ?_)))
            case hl => omega
            case hd => assumption
            intro b h' tk₁ F' N' hb
            k_sweep
            rename (due rows = [] → _) => hgo
            repeat' (first | walk1 | (dsimp only; walk1) | (k_unfold; (try dsimp only)))
            unfold Halt
            rw [end_eq hgo hd0 hb]
            refine goodW_bool (by with_reducible assumption) (by with_reducible assumption) (raisesW_false ?_) ?_
            · wrow_none_raised
            · exact law_post _
          · have hnz : fs.toArray.size ≠ 0 := by
              rw [List.size_toArray, hfl]
              exact fun e => hd0 (List.eq_nil_of_length_eq_zero e)
            have mark : Mark ∧ Mark := ⟨.intro, .intro⟩
            k_steps
            unfold Halt
            clear mark
            rename (due _ ≠ [] → FaultsAre _ _ _) => hfa9
            have hfa8 := hfa9 hd0
            clear hfa9
            refine' eq_faults (S := InL _) (News.get ?mN ?ma) (News.get ?mN2 ?mb) ?hS hfa8 (hfs.mono fun _ _ _ e => Sub.mem ?sub e) ?mu ?_
            case mN => k_asm
            case ma => k_mem
            case mN2 => k_asm
            case mb => k_mem
            case sub => assumption
            case hS => (intro a o e; refine News.get (by assumption) ?_; repeat (first | exact e | refine List.Mem.tail _ ?_))
            case mu => ((have hcL' := cLine_is); simp only [units_in1, units_deeper, units_caller]; (try dsimp only [Ar]); omega)
            repeat' (first | walk1 | (dsimp only; walk1) | (k_unfold; (try dsimp only)))
            unfold Halt
            refine goodW_bool (by with_reducible assumption) (by with_reducible assumption) (raisesW_false ?_) ?_
            · wrow_none_raised
            · exact law_post _
end
end Mine
theorem PySem.Challenge.cw_nn0292_01_holds : PySem.Challenge.rw_nn0292_01.Holds :=
  Mine.holds
