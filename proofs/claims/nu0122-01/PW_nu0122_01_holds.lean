import PyProof.Rows.All
import Wide.All
import OpenK.AllK
import Wide.FinOn
import Lean
import PySem.Challenge.RW_nu0122_01
open PySem PySem.W PySem.Calls PyProof.Rows
set_option Elab.async false
set_option maxRecDepth 100000
set_option maxHeartbeats 8000000
namespace Mine
open_top hd for PySem.Challenge.rw_nu0122_01
theorem fill_it (w : World) : PySem.Challenge.rw_nu0122_01.name = PySem.Challenge.rw_nu0122_01.name ∨ hd.heap_39 w.params = [] := by k_fill; exact .inl rfl
section
def retOf : Flow → Value
  | .ret v => v
  | _ => .none

/-- a body's end: nothing but heap and tokens turned, the base kept, P of the result and the ledger -/
def Back (g : Heap) (s₁ : Shared) (P : Value → List (Addr × Obj) → Prop) (v : Value) (s' : Shared) : Prop :=
  ∃ h' tk L' m' news', s' = { s₁ with heap := h', toks := tk } ∧ Fr g L' h' m' ∧ News g L' h' news' ∧ P v news'

theorem back_end {g h' : Heap} {L' : Addr} {m' : Str → Option Value} {news' : List (Addr × Obj)} {s₁ : Shared} {tk : Nat} {P : Value → List (Addr × Obj) → Prop} {v : Value}
    (F : Fr g L' h' m') (N : News g L' h' news') (h : P v news') : Back g s₁ P v { s₁ with heap := h', toks := tk } := ⟨h', tk, L', m', news', rfl, F, N, h⟩

theorem callS {prog : Program} {w : World} {A₀ A : Around} {s : Shared} {base h₀ : Heap} {outer : List Env} {L : Addr} {m mg mb : Str → Option Value} {env : Env} {sub : List (Addr × Obj)} {K : Frag} {p : Program} {loose : List Str} {mean : ExcName → Option Value}
    {R : Result → Shared → Prop} {name qual : Str} {params : Arguments} {body : List Stmt} {scope : Scope} {dV kV doc pm cdv ct oc : Value} {an od : Option Addr} {osl : Array (Option Value)} {f : Addr} {args : Args} {binds : List (Str × Value)}
    (P : Value → List (Addr × Obj) → Prop)
    (B : Below A₀ base outer h₀) (F : Fr h₀ L s.heap m) (X₀ : K.In h₀) (N : News h₀ L s.heap sub) (T : Top p loose mean mg mb h₀) (hA : A.frames = some (env :: outer)) (hf : env.frame = some L) (hke : env.scope.kind = .function)
    (ho : K.lookup f = some ⟨oc, od, .func (fnOf name qual params body scope dV kV doc pm an cdv ct), osl⟩) (hcd : codeIn K cdv qual = true) (hroom : A.depth < recursionLimit)
    (hbind : BindsTo s (fnOf name qual params body scope dV kV doc pm an cdv ct) args binds) (hloc : ∀ y ∈ binds, scope.names.lookup y.1 = some .local)
    (hco : scope.isCoroutine = false) (hgen : scope.isGenerator = false) (hk : scope.kind = .function) (hcell : ∀ x ∈ scope.names, x.2 ≠ .cell)
    (hbody : ∀ g L' h₁, Fr g L' h₁ (fun y => binds.reverse.lookup y) → News g L' h₁ sub → Below A base (env :: outer) g → K.In g → Top p loose mean mg mb g →
      wpAny (model prog w) (A.deeper (envOf qual scope L' f cdv)) (execs body (envOf qual scope L' f cdv))
        (fun fl s' => Back g s P (retOf fl) s') (fun _ _ => False) { s with heap := h₁, toks := s.toks + binds.length })
    (h : ∀ v h' tk news', (∀ b o, s.heap.get? b = some o → b ∉ sub.map (·.1) → h'.get? b = some o) → (∀ q ∈ news', h'.get? q.1 = some q.2) → (∀ q ∈ news', ∀ o, s.heap.get? q.1 = some o → q.1 ∈ sub.map (·.1)) → P v news' → R (.ok (.ret v)) { s with heap := h', toks := tk }) :
    codeAny (model prog w) A (.call (.ref f) args) R s := by
  have GX := groundX (R := R) B F N hA hf hke
  refine codeAny_call_def (fd := fnOf name qual params body scope dV kV doc pm an cdv ct) (body := body) (binds := binds) hroom ((X₀.keeps F.keep) _ _ ho) rfl (T.nolimit.keeps F.keep) (codeRec_of (X₀.keeps F.keep) hcd) rfl hbind hcell hloc (fun h₁ hns hk₁ => ?_) hco hgen hk
  obtain ⟨FG, BG, st, _⟩ := GX
  refine wpAny_mono (hbody (hideAll s.heap (sub.map (·.1))) s.heap.objs.size h₁ ⟨hns, fun b o e => hk₁ b o (of_hideAll _ e), Nat.le_of_eq (hideAll_size _ _)⟩
    (fun q hq => ⟨hk₁ _ _ (N q hq).1, Nat.ne_of_lt (Heap.lt_size (N q hq).1), hideAll_none _ (List.mem_map_of_mem hq)⟩) BG (X₀.keeps fun b o e => st b o e) (T.keeps fun b o e => st b o e)) (fun fl s' hb => ?_) fun _ _ x => x.elim
  obtain ⟨h', tk, L', m', news', rfl, F', N', hP⟩ := hb
  have := h (retOf fl) h' tk news' (fun b o e nb => F'.keep b o (hideAll_get _ e nb)) (fun q hq => (N' q hq).1) (fun q hq o e => Classical.byContradiction fun nb => by
    have h2 := (N' q hq).2.2
    rw [hideAll_get _ e nb] at h2
    cases h2) hP
  cases fl <;> exact this

/-- frame and ledger behind a call that turned one object of the ledger alone -/
theorem eff_upd {h₀ h h' : Heap} {L d : Addr} {m : Str → Option Value} {news : List (Addr × Obj)} {o o' : Obj} {u : Obj → List (Addr × Obj)} (F : Fr h₀ L h m) (N : News h₀ L h news) (U : UpdF d o news u)
    (e : ∀ b x, h.get? b = some x → b ≠ d → h'.get? b = some x) (hd : h'.get? d = some o') : Fr h₀ L h' m ∧ News h₀ L h' (u o') := by
  obtain ⟨pre, post, rfl, hu, h1, h2⟩ := U.split
  have D := N (d, o) (by simp)
  obtain ⟨oL, es, ep, hL, r⟩ := F.ns
  refine ⟨⟨⟨oL, es, ep, e L oL hL (Ne.symm D.2.1), r⟩, fun b x q => e b x (F.keep b x q) fun z => ?_, F.above⟩, ?_⟩
  · have := D.2.2; rw [← z, q] at this; cases this
  · rw [hu]
    intro p hp
    rcases List.mem_append.mp hp with q | q
    · have P := N p (List.mem_append_left _ q); exact ⟨e _ _ P.1 (h1 p q), P.2⟩
    · rcases List.mem_cons.mp q with rfl | q
      · exact ⟨hd, D.2⟩
      · have P := N p (List.mem_append_right _ (.tail _ q)); exact ⟨e _ _ P.1 (h2 p q), P.2⟩

/-- frame and ledger behind a call that made one object -/
theorem eff_new {h₀ h h' : Heap} {L l : Addr} {m : Str → Option Value} {news : List (Addr × Obj)} {o : Obj} (F : Fr h₀ L h m) (N : News h₀ L h news)
    (e : ∀ b x, h.get? b = some x → b ∉ news.map (·.1) → h'.get? b = some x) (k : ∀ q ∈ (l, o) :: news, h'.get? q.1 = some q.2) (z : ∀ x, h.get? l = some x → l ∈ news.map (·.1)) (hlt : ∀ p ∈ news, p.1 < l) :
    Fr h₀ L h' m ∧ News h₀ L h' ((l, o) :: news) := by
  have off : l ∉ news.map (·.1) := fun q => by
    obtain ⟨p, hp, e⟩ := List.mem_map.mp q
    exact absurd (hlt p hp) (by rw [e]; exact Nat.lt_irrefl _)
  obtain ⟨oL, es, ep, hL, r⟩ := F.ns
  have nL : L ∉ news.map (·.1) := fun q => by
    obtain ⟨p, hp, e⟩ := List.mem_map.mp q
    exact (N p hp).2.1 e
  have n0 : ∀ b x, h₀.get? b = some x → b ∉ news.map (·.1) := fun b x e q => by
    obtain ⟨p, hp, rfl⟩ := List.mem_map.mp q
    rw [(N p hp).2.2] at e; cases e
  refine ⟨⟨⟨oL, es, ep, e L oL hL nL, r⟩, fun b x q => e b x (F.keep b x q) (n0 b x q), F.above⟩, fun p hp => ?_⟩
  refine ⟨k p hp, ?_⟩
  rcases List.mem_cons.mp hp with rfl | hp
  · refine ⟨fun q => off (z oL (by rw [show l = L from q]; exact hL)), ?_⟩
    cases q : h₀.get? l with
    | none => rfl
    | some x => exact absurd (z x (F.keep l x q)) off
  · exact (N p hp).2
end
section
local macro_rules | `(tactic| k_room) => `(tactic| ((try simp only [depth_under_make, depth_under_kw, depth_in1, depth_deeper, depth_caller]); omega))

theorem mulOk31 (x y : Int) : IntMulOk (x.fmod 2147483647) y := by
  have h1 := Int.fmod_nonneg_of_pos x (show (0 : Int) < 2147483647 by decide)
  have h2 := Int.fmod_lt_of_pos x (show (0 : Int) < 2147483647 by decide)
  exact PySem.IntMulOk.of_left (PySem.intBits_le_64 (by omega) (by omega))
local macro_rules | `(tactic| mul_fits) => `(tactic| with_unfolding_all exact mulOk31 _ _)

theorem take_K {w : World} {A₀ : Around} {s : Shared} {base h₀ : Heap} {outer : List Env} {L : Addr} {m mg mb : Str → Option Value} {env : Env} {news : List (Addr × Obj)} {mean : ExcName → Option Value}
    {E : Value → Shared → Prop} {Q : Value → Shared → Prop} {d : Nat} {gs : Option (List Code)} {un : Nat} {l : Addr} {a b top : Int} {ta tb tt : Tok} {n : Nat} {u : Obj → List (Addr × Obj)}
    (B : Below A₀ base outer h₀) (F : Fr h₀ L s.heap m) (X₀ : (hd.heap_39 w.params).In h₀) (N : News h₀ L s.heap news) (T : Top hd.view_39 (looseW hd.view_39 []) mean mg mb h₀)
    (hf : env.frame = some L) (hke : env.scope.kind = .function) (hr : d + 10 < recursionLimit)
    (U : UpdF l (W.listOf #[.int a ta, .int b tb] n) news u) (h1 : 0 ≤ a) (h2 : 0 ≤ b) (h3 : b < 2147483647) (h4 : 0 < top) (h5 : top < 1000)
    (h : ∀ r a' b' tr ta tb h' tk, 0 ≤ r → r < top → 0 ≤ a' → 0 ≤ b' → b' < 2147483647 → Fr h₀ L h' m → News h₀ L h' (u (W.listOf #[.int a' ta, .int b' tb] n)) → Q (.int r tr) { s with heap := h', toks := tk }) :
    wpAny (model PySem.Challenge.rw_nu0122_01.row.prog w) ⟨none, d, some (env :: outer), gs, un⟩ (call (.ref 112) [.ref l, .int top tt]) Q E s := by
  have N₁ : News h₀ L s.heap [(l, W.listOf #[.int a ta, .int b tb] n)] := by
    obtain ⟨pre, post, rfl, _⟩ := U.split
    intro q hq
    exact N q (List.mem_append_right _ (by rw [List.mem_singleton.mp hq]; exact .head _))
  refine wpAny_call ?_
  refine' callS (A := ⟨none, d, some (env :: outer), gs, un⟩) (K := hd.heap_39 w.params) (mg := mg) (mb := mb) (p := hd.view_39)
    (fun v nw => ∃ r a' b' tr ta tb, v = .int r tr ∧ (0 ≤ r ∧ r < top ∧ 0 ≤ a' ∧ 0 ≤ b' ∧ b' < 2147483647) ∧ (l, W.listOf #[.int a' ta, .int b' tb] n) ∈ nw) B F X₀ N₁ T rfl hf hke ?ho ?hcd ?room ?bind ?loc ?co ?gen ?k ?cell ?body ?h
  case ho => k_is
  case hcd => k_is
  case room => show d < recursionLimit; omega
  case bind => exact BindsTo.of_eq rfl
  case loc => exact locs rfl
  case co => exact rfl
  case gen => exact rfl
  case k => exact rfl
  case cell => decide
  case h =>
    rintro v h' tk nw e N' _ ⟨r, a', b', tr, ta', tb', rfl, ⟨g1, g2, g3, g4, g5⟩, hm⟩
    obtain ⟨F', N''⟩ := eff_upd F N U (fun b x q nb => e b x q (by simpa using nb)) (N' _ hm)
    exact h r a' b' tr ta' tb' h' tk g1 g2 g3 g4 g5 F' N''
  case body =>
    intro g L' h₁ F' N' B' X' T'
    (try dsimp only)
    (try k_fold)
    k_steps
    all_goals (refine' back_end (by assumption) (by assumption) ?_)
    all_goals first
      | exact ⟨_, _, _, _, _, _, rfl, ⟨Int.fmod_nonneg_of_pos _ h4, Int.fmod_lt_of_pos _ h4, Int.fdiv_nonneg h1 (by omega), h2, h3⟩, List.mem_singleton.mpr rfl⟩
      | exact ⟨_, _, _, _, _, _, rfl, ⟨Int.fmod_nonneg_of_pos _ h4, Int.fmod_lt_of_pos _ h4, h1, Int.fmod_nonneg_of_pos _ (by decide), Int.fmod_lt_of_pos _ (by decide)⟩, List.mem_singleton.mpr rfl⟩
end
section
local macro_rules | `(tactic| k_room) => `(tactic| ((try simp only [depth_under_make, depth_under_kw, depth_in1, depth_deeper, depth_caller]); omega))

theorem eff_two {h h' : Heap} {x d : Addr} {ox : Obj} (e : ∀ b o, h.get? b = some o → b ∉ [x, d] → h'.get? b = some o) (h1 : h.get? x = some ox) (h2 : h'.get? x = some ox) : ∀ b o, h.get? b = some o → b ≠ d → h'.get? b = some o := by
  intro b o q nb
  by_cases hb : b = x
  · subst hb
    rw [h1] at q
    rw [h2, q]
  · exact e b o q (by simp [hb, nb])

theorem item_in {prog : Program} {w : World} {A : Around} {E : Value → Shared → Prop} {s : Shared} {value slice : PySem.Expr} {q : Addr} {vs : List Value} {ns : List Int} {k : Int} {u : Tok} {Q : Value → Shared → Prop}
    (hl : s.heap.IsList q vs.toArray) (hi : IntsAre vs ns) (h0 : 0 ≤ k) (h1 : k < (ns.length : Int)) (hf : ns.length < 1000)
    (hs : subscripted slice false (.ref q) (.int k u) = operate [.ref q, .int k u] (getItem (.ref q) (.int k u))) (h : ∀ x t, x ∈ ns → Q (.int x t) s) :
    wpAny (model prog w) A (subscriptTail value slice (.ref q) (.int k u)) Q E s := by
  have hk : k.toNat < ns.length := by omega
  obtain ⟨t, ht⟩ := hi.get k.toNat ns[k.toNat] (by simp [hk])
  exact tail_any hl.typeIs slot_list_getitem.lookup (wpAny_getItem_list hl h0 (by omega) (by simpa using ht) (h _ _ (List.getElem_mem hk))) hs

local macro_rules | `(tactic| walk_at "call builtin:len") => `(tactic| ((with_reducible show wpAny _ _ (call (Value.builtin "len") [Value.ref _]) _ _ _); refine' kst_len ?k1 ?k2 ?k3 ?k4 ?_; (case k1 => k_asm); (case k2 => k_mem); (case k3 => exact IntsAre.length (by assumption)); (case k4 => omega); k_whole))
local macro_rules | `(tactic| walk_at "call ref") => `(tactic| ((with_reducible show wpAny _ _ (call (Value.ref 112) [Value.ref _, Value.int _ _]) _ _ _); k_dflt (refine' take_K ?k1 ?k2 ?k3 ?k4 ?k5 ?kF ?kK ?kr ?kU ?c1 ?c2 ?c3 ?c4 ?c5 ?_; (case kF => exact rfl); (case kK => exact rfl); (case k1 => k_asm); (case k2 => k_asm); (case k3 => k_asm); (case k4 => k_asm); (case k5 => k_asm); (case kr => k_room); (case kU => k_updF); (case c1 => assumption); (case c2 => assumption); (case c3 => assumption); (case c4 => omega); (case c5 => omega); k_whole); intro r' a' b' tr' ta' tb' h' tk' g1' g2' g3' g4' g5' F' N'; (try dsimp only at N'); (try k_sweep)))
local macro_rules | `(tactic| walk_at "subscriptTail") => `(tactic| ((with_reducible show wpAny _ _ (subscriptTail _ _ (Value.ref _) (Value.int _ _)) _ _ _); k_dflt (refine' item_in ?k1 ?k2 ?k3 ?k4 ?k5 ?k6 ?_; (case k1 => exact News.isList (by k_asm) (by k_mem)); (case k2 => assumption); (case k3 => assumption); (case k4 => assumption); (case k5 => assumption); (case k6 => with_unfolding_all rfl); k_whole); intro x' t' hx'))

theorem one_K {w : World} {A₀ : Around} {s : Shared} {base h₀ : Heap} {outer : List Env} {L : Addr} {m mg mb : Str → Option Value} {env : Env} {news : List (Addr × Obj)} {mean : ExcName → Option Value}
    {E : Value → Shared → Prop} {Q : Value → Shared → Prop} {d : Nat} {gs : Option (List Code)} {un : Nat} {l q : Addr} {a b : Int} {ta tb : Tok} {n n' : Nat} {u : Obj → List (Addr × Obj)} {vs : List Value} {ns : List Int}
    (B : Below A₀ base outer h₀) (F : Fr h₀ L s.heap m) (X₀ : (hd.heap_39 w.params).In h₀) (N : News h₀ L s.heap news) (T : Top hd.view_39 (looseW hd.view_39 []) mean mg mb h₀)
    (hf : env.frame = some L) (hke : env.scope.kind = .function) (hr : d + 20 < recursionLimit)
    (U : UpdF l (W.listOf #[.int a ta, .int b tb] n) news u) (h1 : 0 ≤ a) (h2 : 0 ≤ b) (h3 : b < 2147483647) (hq : (q, W.listOf vs.toArray n') ∈ news) (hi : IntsAre vs ns) (h4 : 0 < ns.length) (h5 : ns.length < 1000) (hne : @Ne Nat l q)
    (h : ∀ r a' b' tr ta tb h' tk, r ∈ ns → 0 ≤ a' → 0 ≤ b' → b' < 2147483647 → Fr h₀ L h' m → News h₀ L h' (u (W.listOf #[.int a' ta, .int b' tb] n)) → Q (.int r tr) { s with heap := h', toks := tk }) :
    wpAny (model PySem.Challenge.rw_nu0122_01.row.prog w) ⟨none, d, some (env :: outer), gs, un⟩ (call (.ref 119) [.ref l, .ref q]) Q E s := by
  have hl : (l, W.listOf #[.int a ta, .int b tb] n) ∈ news := by
    obtain ⟨pre, post, rfl, _⟩ := U.split
    exact List.mem_append_right _ (.head _)
  have N₁ : News h₀ L s.heap [(q, W.listOf vs.toArray n'), (l, W.listOf #[.int a ta, .int b tb] n)] := by
    intro p hp
    rcases List.mem_cons.mp hp with rfl | hp
    · exact N _ hq
    · rw [List.mem_singleton.mp hp]; exact N _ hl
  refine wpAny_call ?_
  refine' callS (A := ⟨none, d, some (env :: outer), gs, un⟩) (K := hd.heap_39 w.params) (mg := mg) (mb := mb) (p := hd.view_39)
    (fun v nw => ∃ r a' b' tr ta tb, v = .int r tr ∧ (r ∈ ns ∧ 0 ≤ a' ∧ 0 ≤ b' ∧ b' < 2147483647) ∧ (l, W.listOf #[.int a' ta, .int b' tb] n) ∈ nw ∧ (q, W.listOf vs.toArray n') ∈ nw) B F X₀ N₁ T rfl hf hke ?ho ?hcd ?room ?bind ?loc ?co ?gen ?k ?cell ?body ?h
  case ho => k_is
  case hcd => k_is
  case room => show d < recursionLimit; omega
  case bind => exact BindsTo.of_eq rfl
  case loc => exact locs rfl
  case co => exact rfl
  case gen => exact rfl
  case k => exact rfl
  case cell => decide
  case h =>
    rintro v h' tk nw e N' _ ⟨r, a', b', tr, ta', tb', rfl, ⟨g1, g2, g3, g4⟩, hm, hm2⟩
    obtain ⟨F', N''⟩ := eff_upd F N U (eff_two e (N _ hq).1 (N' _ hm2)) (N' _ hm)
    exact h r a' b' tr ta' tb' h' tk g1 g2 g3 g4 F' N''
  case body =>
    intro g L' h₁ F' N' B' X' T'
    (try dsimp only)
    (try k_fold)
    k_steps
    all_goals (refine' back_end (by assumption) (by assumption) ?_)
    all_goals (refine ⟨_, _, _, _, _, _, rfl, ⟨?_, ?_, ?_, ?_⟩, .tail _ (.head _), .head _⟩ <;> assumption)
end
section
local macro_rules | `(tactic| k_room) => `(tactic| ((try simp only [depth_under_make, depth_under_kw, depth_in1, depth_deeper, depth_caller]); omega))

theorem big_nonneg (c : Int) (p : Bool) : 0 ≤ (if -1 - c > c then -1 - c else c) * (if p = true then 1 else 0) := by
  refine Int.mul_nonneg ?_ ?_
  · split <;> omega
  · split <;> decide

theorem pool_K {w : World} {A₀ : Around} {s : Shared} {base h₀ : Heap} {outer : List Env} {L : Addr} {m mg mb : Str → Option Value} {env : Env} {news : List (Addr × Obj)} {mean : ExcName → Option Value}
    {E : Value → Shared → Prop} {Q : Value → Shared → Prop} {d : Nat} {gs : Option (List Code)} {un : Nat} {sc : Addr} {vs : List Value} {ns : List Int} {k : Int} {tk : Tok}
    (B : Below A₀ base outer h₀) (F : Fr h₀ L s.heap m) (X₀ : (hd.heap_39 w.params).In h₀) (N : News h₀ L s.heap news) (T : Top hd.view_39 (looseW hd.view_39 []) mean mg mb h₀)
    (hf : env.frame = some L) (hke : env.scope.kind = .function) (hr : d + 20 < recursionLimit)
    (hl : base.IsList sc vs.toArray) (hi : IntsAre vs ns) (hlay : (PyData.list (ns.map PyData.int)).layable0 = true) (hk0 : 0 ≤ k) (hk1 : k ≤ 1)
    (h : ∀ l a b ta tb h' tk, 0 ≤ a → 0 ≤ b → b < 2147483647 → Fr h₀ L h' m → News h₀ L h' ((l, W.listOf #[.int a ta, .int b tb] 0) :: news) → (∀ p ∈ news, p.1 < l) → Q (.ref l) { s with heap := h', toks := tk }) :
    wpAny (model PySem.Challenge.rw_nu0122_01.row.prog w) ⟨none, d, some (env :: outer), gs, un⟩ (call (.ref 105) [.ref sc, .int k tk]) Q E s := by
  have mk9 := kstMark
  refine wpAny_call ?_
  refine' callS (A := ⟨none, d, some (env :: outer), gs, un⟩) (K := hd.heap_39 w.params) (mg := mg) (mb := mb) (p := hd.view_39)
    (fun v nw => ∃ l a b ta tb, v = .ref l ∧ (0 ≤ a ∧ 0 ≤ b ∧ b < 2147483647) ∧ nw = (l, W.listOf #[.int a ta, .int b tb] 0) :: news ∧ (∀ p ∈ news, p.1 < l)) B F X₀ N T rfl hf hke ?ho ?hcd ?room ?bind ?loc ?co ?gen ?k ?cell ?body ?h
  case ho => k_is
  case hcd => k_is
  case room => show d < recursionLimit; omega
  case bind => exact BindsTo.of_eq rfl
  case loc => exact locs rfl
  case co => exact rfl
  case gen => exact rfl
  case k => exact rfl
  case cell => decide
  case h =>
    rintro v h' tk nw e N' z ⟨l, a, b, ta, tb, rfl, ⟨g1, g2, g3⟩, rfl, hlt⟩
    obtain ⟨F', N''⟩ := eff_new F N e N' (z _ (.head _)) hlt
    exact h l a b ta tb h' tk g1 g2 g3 F' N'' hlt
  case body =>
    intro g L' h₁ F' N' B' X' T'
    have hlg : g.IsList sc vs.toArray := stays_list B'.stays hl
    clear F N B X₀ T
    (try dsimp only)
    (try k_fold)
    k_steps
    all_goals (refine' back_end (by assumption) (by assumption) ?_)
    all_goals exact ⟨_, _, _, _, _, rfl, ⟨big_nonneg _ _, Int.fmod_nonneg_of_pos _ (by decide), Int.fmod_lt_of_pos _ (by decide)⟩, rfl, by assumption⟩
end
section
local macro_rules | `(tactic| k_room) => `(tactic| ((try simp only [depth_under_make, depth_under_kw, depth_in1, depth_deeper, depth_caller]); omega))

structure St where
  mss : Int
  most : Int
  size : Int
  thr : Int
  gath : Int
  dup : Int
  rcv : Bool
  caut : Bool

def paceOf : Bool → Int
  | true => 1
  | false => 2

abbrev ent (w : World) (n : Str) (t : Tok) (v : Value) : DictEntry := ⟨PyData.keyHash w.params n, .str n t, v⟩

def toldEs (w : World) (k v : Nat → Tok) (c : St) : List DictEntry :=
  [ent w (Str.ofString "mss") (k 0) (.int c.mss (v 0)), ent w (Str.ofString "most") (k 1) (.int c.most (v 1)), ent w (Str.ofString "size") (k 2) (.int c.size (v 2)),
   ent w (Str.ofString "threshold") (k 3) (.int c.thr (v 3)), ent w (Str.ofString "gathered") (k 4) (.int c.gath (v 4)), ent w (Str.ofString "duplicates") (k 5) (.int c.dup (v 5)),
   ent w (Str.ofString "is_recovering") (k 6) (.bool c.rcv), ent w (Str.ofString "is_cautious") (k 7) (.bool c.caut)]

def o8 (a0 a1 a2 a3 a4 a5 a6 a7 : PyData) : List (PyData × PyData) :=
  [(.str (Str.ofString "mss"), a0), (.str (Str.ofString "most"), a1), (.str (Str.ofString "window"), a2), (.str (Str.ofString "threshold"), a3),
   (.str (Str.ofString "credit"), a4), (.str (Str.ofString "runs"), a5), (.str (Str.ofString "recovering"), a6), (.str (Str.ofString "pace"), a7)]
def ownD (c : St) : List (PyData × PyData) := o8 (.int c.mss) (.int c.most) (.int c.size) (.int c.thr) (.int c.gath) (.int c.dup) (.bool c.rcv) (.int (paceOf c.caut))
section
variable (a0 a1 a2 a3 a4 a5 a6 a7 x : PyData)
theorem put_window : PyProof.V.putD (.str (Str.ofString "window")) x (o8 a0 a1 a2 a3 a4 a5 a6 a7) = o8 a0 a1 x a3 a4 a5 a6 a7 := rfl
theorem put_threshold : PyProof.V.putD (.str (Str.ofString "threshold")) x (o8 a0 a1 a2 a3 a4 a5 a6 a7) = o8 a0 a1 a2 x a4 a5 a6 a7 := rfl
theorem put_credit : PyProof.V.putD (.str (Str.ofString "credit")) x (o8 a0 a1 a2 a3 a4 a5 a6 a7) = o8 a0 a1 a2 a3 x a5 a6 a7 := rfl
theorem put_runs : PyProof.V.putD (.str (Str.ofString "runs")) x (o8 a0 a1 a2 a3 a4 a5 a6 a7) = o8 a0 a1 a2 a3 a4 x a6 a7 := rfl
theorem put_recovering : PyProof.V.putD (.str (Str.ofString "recovering")) x (o8 a0 a1 a2 a3 a4 a5 a6 a7) = o8 a0 a1 a2 a3 a4 a5 x a7 := rfl
theorem put_pace : PyProof.V.putD (.str (Str.ofString "pace")) x (o8 a0 a1 a2 a3 a4 a5 a6 a7) = o8 a0 a1 a2 a3 a4 a5 a6 x := rfl
end

/-- own[key] = v, its facts made small again -/
theorem set_own {w : World} {A : Around} {E : Value → Shared → Prop} {s : Shared} {h₀ : Heap} {L d : Addr} {m : Str → Option Value} {news : List (Addr × Obj)} {g : Obj → List (Addr × Obj)} {o : Obj} {k : Str} {tk : Tok} {v : Value} {dv : PyData}
    {kvs : List (Str × Value)} {D D' : List (PyData × PyData)} {Q : Unit → Shared → Prop} (hv : PyProof.V.Flat v dv) (F : Fr h₀ L s.heap m) (N : News h₀ L s.heap news) (U : UpdF d o news g)
    (hdi : o.IsDictOf (PySem.strKind PySem.Challenge.rw_nu0122_01.row.prog w) kvs) (hfl : PyProof.V.FlatPairs PyData.str kvs D) (e : PyProof.V.putD (.str k) dv D = D') (hz : D.length ≤ 1000)
    (h : ∀ h' o' kvs' tk, Fr h₀ L h' m → News h₀ L h' (g o') → o'.IsDictOf (PySem.strKind PySem.Challenge.rw_nu0122_01.row.prog w) kvs' → PyProof.V.FlatPairs PyData.str kvs' D' → Q () { s with heap := h', toks := tk }) :
    wpAny (model PySem.Challenge.rw_nu0122_01.row.prog w) A (setItem (.ref d) (.str k tk) v) Q E s :=
  setItem_K PyProof.V.same_str (strKind_is _ _ _ _) hv F N U hdi hfl (fun h' o' F' N' a b => h h' o' _ _ F' N' a (e ▸ b)) (by rw [sizeLine_eq]; omega)

def tk6 (a b c d e f : Tok) : Nat → Tok
  | 0 => a
  | 1 => b
  | 2 => c
  | 3 => d
  | 4 => e
  | _ => f

theorem told_end {w : World} {k : Nat → Tok} {a0 a1 a2 a3 a4 a5 : Int} {b0 b1 : Bool} {t0 t1 t2 t3 t4 t5 : Tok} {c : St} {x dx : Addr} {R : Prop} (hr : R) (e : ∀ x2 x3 x4, x2 = a2 → x3 = a3 → x4 = a4 → St.mk a0 a1 x2 x3 x4 a5 b0 b1 = c) :
    ∃ v' c', R ∧ c' = c ∧ (x, instObj 94 dx) ∈ [(x, instObj 94 dx), (dx, dictOf
      [ent w (Str.ofString "mss") (k 0) (.int a0 t0), ent w (Str.ofString "most") (k 1) (.int a1 t1), ent w (Str.ofString "size") (k 2) (.int a2 t2),
       ent w (Str.ofString "threshold") (k 3) (.int a3 t3), ent w (Str.ofString "gathered") (k 4) (.int a4 t4), ent w (Str.ofString "duplicates") (k 5) (.int a5 t5),
       ent w (Str.ofString "is_recovering") (k 6) (.bool b0), ent w (Str.ofString "is_cautious") (k 7) (.bool b1)] 8)] ∧ (dx, dictOf (toldEs w k v' c') 8) ∈ [(x, instObj 94 dx), (dx, dictOf
      [ent w (Str.ofString "mss") (k 0) (.int a0 t0), ent w (Str.ofString "most") (k 1) (.int a1 t1), ent w (Str.ofString "size") (k 2) (.int a2 t2),
       ent w (Str.ofString "threshold") (k 3) (.int a3 t3), ent w (Str.ofString "gathered") (k 4) (.int a4 t4), ent w (Str.ofString "duplicates") (k 5) (.int a5 t5),
       ent w (Str.ofString "is_recovering") (k 6) (.bool b0), ent w (Str.ofString "is_cautious") (k 7) (.bool b1)] 8)] := by
  have e := e a2 a3 a4 rfl rfl rfl
  subst e
  exact ⟨tk6 t0 t1 t2 t3 t4 t5, _, hr, rfl, .head _, .tail _ (.head _)⟩

theorem e8 {a0 a1 a2 a3 a4 a5 a6 a7 : PyData} {b1 : Bool} (h : a7 = .int (paceOf b1)) : o8 a0 a1 a2 a3 a4 a5 a6 a7 = o8 a0 a1 a2 a3 a4 a5 a6 (.int (paceOf b1)) := h ▸ rfl
theorem own_end {w : World} {D : List (PyData × PyData)} {a0 a1 a2 a3 a4 a5 : Int} {b0 b1 : Bool} {c : St} {ow : Addr} {o : Obj} {kvs : List (Str × Value)} {R : Prop} {nw : List (Addr × Obj)} (hr : R) (hm : (ow, o) ∈ nw)
    (hdi : o.IsDictOf (PySem.strKind PySem.Challenge.rw_nu0122_01.row.prog w) kvs) (hfl : PyProof.V.FlatPairs PyData.str kvs D)
    (e : D = o8 (.int a0) (.int a1) (.int a2) (.int a3) (.int a4) (.int a5) (.bool b0) (.int (paceOf b1)))
    (e2 : ∀ x2 x3 x4, x2 = a2 → x3 = a3 → x4 = a4 → St.mk a0 a1 x2 x3 x4 a5 b0 b1 = c) :
    ∃ o' kvs', R ∧ (ow, o') ∈ nw ∧ o'.IsDictOf (PySem.strKind PySem.Challenge.rw_nu0122_01.row.prog w) kvs' ∧ PyProof.V.FlatPairs PyData.str kvs' (ownD c) := by
  have e2 := e2 a2 a3 a4 rfl rfl rfl
  subst e2 e
  exact ⟨o, kvs, hr, hm, hdi, hfl⟩

def cap (x y : Int) : Int := if x > y then y else x
def slowW (c : St) (n : Int) : Int := cap (c.size + cap n (if c.caut = true then c.mss else 2 * c.mss)) c.most
def slowF (c : St) (s : Int) : St := { c with dup := 0, size := s, caut := if s ≥ c.thr then false else c.caut }
def ackF (c : St) (n : Int) : St :=
  if c.rcv = true then { c with rcv := false, dup := 0, size := cap c.thr c.most, gath := 0 }
  else if c.size < c.thr then slowF c (slowW c n)
  else if c.gath + n ≥ c.size then { c with dup := 0, gath := c.gath + n - c.size, size := cap (c.size + c.mss) c.most }
  else { c with dup := 0, gath := c.gath + n }
theorem slow_eq (c : St) (n x : Int) {t : St} (h : x = slowW c n) (e : t = slowF c x) : t = slowF c (slowW c n) := h ▸ e

def halfF (c : St) (f : Int) : Int := if f.fdiv 2 > 2 * c.mss then f.fdiv 2 else 2 * c.mss
def dupF (c : St) (f : Int) : St :=
  if c.rcv = true then { c with dup := c.dup + 1, size := cap (c.size + c.mss) c.most }
  else if c.dup + 1 < 3 then { c with dup := c.dup + 1 }
  else { c with dup := c.dup + 1, thr := halfF c f, size := cap (halfF c f + 3 * c.mss) c.most, gath := 0, rcv := true }
def dupW (c : St) : Str :=
  if c.rcv = true then Str.ofString "grow" else if c.dup + 1 < 3 then Str.ofString "none" else Str.ofString "resend"
def lateF (c : St) (f : Int) : St := { c with thr := halfF c f, size := c.mss, gath := 0, dup := 0, rcv := false, caut := true }
theorem str_end {a b : Str} {t : Tok} (h : a = b) : ∃ t', Value.str a t = Value.str b t' := ⟨t, h ▸ rfl⟩
end
section
local macro_rules | `(tactic| k_room) => `(tactic| ((try simp only [depth_under_make, depth_under_kw, depth_in1, depth_deeper, depth_caller]); omega))

theorem acked_K {w : World} {A₀ : Around} {s : Shared} {base h₀ : Heap} {outer : List Env} {L : Addr} {m mg mb : Str → Option Value} {env : Env} {news : List (Addr × Obj)} {mean : ExcName → Option Value}
    {E : Value → Shared → Prop} {Q : Value → Shared → Prop} {d : Nat} {gs : Option (List Code)} {un : Nat} {x dx : Addr} {k v : Nat → Tok} {c : St} {n : Int} {tn : Tok} {u : Obj → List (Addr × Obj)}
    (B : Below A₀ base outer h₀) (F : Fr h₀ L s.heap m) (X₀ : (hd.heap_39 w.params).In h₀) (N : News h₀ L s.heap news) (T : Top hd.view_39 (looseW hd.view_39 []) mean mg mb h₀)
    (hf : env.frame = some L) (hke : env.scope.kind = .function) (hr : d + 20 < recursionLimit)
    (hx : (x, instObj 94 dx) ∈ news) (U : UpdF dx (dictOf (toldEs w k v c) 8) news u) (hne : @Ne Nat x dx)
    (h : ∀ v' h' tk, Fr h₀ L h' m → News h₀ L h' (u (dictOf (toldEs w k v' (ackF c n)) 8)) → Q .none { s with heap := h', toks := tk }) :
    wpAny (model PySem.Challenge.rw_nu0122_01.row.prog w) ⟨none, d, some (env :: outer), gs, un⟩ (call (.ref 56) [.ref x, .int n tn]) Q E s := by
  have hd' : (dx, dictOf (toldEs w k v c) 8) ∈ news := by
    obtain ⟨pre, post, rfl, _⟩ := U.split
    exact List.mem_append_right _ (.head _)
  have N₁ : News h₀ L s.heap [(x, instObj 94 dx), (dx, dictOf (toldEs w k v c) 8)] := by
    intro p hp
    rcases List.mem_cons.mp hp with rfl | hp
    · exact N _ hx
    · rw [List.mem_singleton.mp hp]; exact N _ hd'
  refine wpAny_call ?_
  refine' callS (A := ⟨none, d, some (env :: outer), gs, un⟩) (K := hd.heap_39 w.params) (mg := mg) (mb := mb) (p := hd.view_39)
    (fun r nw => ∃ v' c', (r = .none) ∧ c' = ackF c n ∧ (x, instObj 94 dx) ∈ nw ∧ (dx, dictOf (toldEs w k v' c') 8) ∈ nw) B F X₀ N₁ T rfl hf hke ?ho ?hcd ?room ?bind ?loc ?co ?gen ?k ?cell ?body ?h
  case ho => k_is
  case hcd => k_is
  case room => show d < recursionLimit; omega
  case bind => exact BindsTo.of_eq rfl
  case loc => exact locs rfl
  case co => exact rfl
  case gen => exact rfl
  case k => exact rfl
  case cell => decide
  case h =>
    rintro _ h' tk nw e N' _ ⟨v', _, rfl, rfl, hm, hm2⟩
    obtain ⟨F', N''⟩ := eff_upd F N U (eff_two e (N _ hx).1 (N' _ hm)) (N' _ hm2)
    exact h v' h' tk F' N''
  case body =>
    intro g L' h₁ F' N' B' X' T'
    clear F N B X₀ T
    (try dsimp only)
    (try k_fold)
    k_steps
    all_goals (refine' back_end (by assumption) (by assumption) ?_)
    all_goals (refine' told_end rfl ?_)
    all_goals ((repeat ((with_reducible rename Fr _ _ _ _ => q9); clear q9)); (repeat ((with_reducible rename News _ _ _ _ => q9); clear q9)); (repeat ((with_reducible rename Below _ _ _ _ => q9); clear q9)); (repeat ((with_reducible rename Top _ _ _ _ _ _ => q9); clear q9)); (repeat ((with_reducible rename Frag.In _ _ => q9); clear q9)))
    all_goals clear U hx hd'
    all_goals (clear h; obtain ⟨mss, most, size, thr, gath, dup, rcv, caut⟩ := c; cases rcv <;> cases caut <;> first | contradiction | skip)
    all_goals (intro x2 x3 x4 hx2 hx3 hx4; (try dsimp only at *))
    all_goals (simp only [ackF, reduceIte, Bool.false_eq_true])
    all_goals ((repeat' split) <;> first | (exfalso; omega) | ((try unfold cap); congr 1 <;> first | rfl | omega) | (refine slow_eq _ _ x2 ?_ ?_; (· unfold slowW cap; (try simp only [reduceIte, Bool.false_eq_true]); omega); (· unfold slowF; subst hx3 hx4; dsimp only; split <;> first | rfl | (exfalso; omega))))
end
section
local macro_rules | `(tactic| k_room) => `(tactic| ((try simp only [depth_under_make, depth_under_kw, depth_in1, depth_deeper, depth_caller]); omega))

local macro_rules | `(tactic| walk_at "setItem ref str") => `(tactic| (k_here; (with_reducible rename Obj.IsDictOf _ _ _ => qd9); (with_reducible rename PyProof.V.FlatPairs _ _ _ => qf9); k_dflt (refine' set_own ?v ?F ?N ?U qd9 qf9 ?e ?z ?_; (case F => k_asm); (case N => k_asm); (case U => k_updF); (case v => k_flat); (case e => with_reducible first | exact put_window _ _ _ _ _ _ _ _ _ | exact put_threshold _ _ _ _ _ _ _ _ _ | exact put_credit _ _ _ _ _ _ _ _ _ | exact put_runs _ _ _ _ _ _ _ _ _ | exact put_recovering _ _ _ _ _ _ _ _ _ | exact put_pace _ _ _ _ _ _ _ _ _); (case z => exact Nat.le_of_ble_eq_true rfl); k_whole); intro h' o' kvs' tk' F' N' hd' hf'; (try dsimp only at N'); (try k_sweep); (clear qf9 qd9)))
theorem lawAcked_K {w : World} {A₀ : Around} {s : Shared} {base h₀ : Heap} {outer : List Env} {L : Addr} {m mg mb : Str → Option Value} {env : Env} {news : List (Addr × Obj)} {mean : ExcName → Option Value}
    {E : Value → Shared → Prop} {Q : Value → Shared → Prop} {d : Nat} {gs : Option (List Code)} {un : Nat} {ow : Addr} {o : Obj} {kvs : List (Str × Value)} {c : St} {n : Int} {tn : Tok} {u : Obj → List (Addr × Obj)}
    (B : Below A₀ base outer h₀) (F : Fr h₀ L s.heap m) (X₀ : (hd.heap_39 w.params).In h₀) (N : News h₀ L s.heap news) (T : Top hd.view_39 (looseW hd.view_39 []) mean mg mb h₀)
    (hf : env.frame = some L) (hke : env.scope.kind = .function) (hr : d + 20 < recursionLimit)
    (hlo : (ow == sysModules) = false) (U : UpdF ow o news u) (hdi : o.IsDictOf (PySem.strKind PySem.Challenge.rw_nu0122_01.row.prog w) kvs) (hfl : PyProof.V.FlatPairs PyData.str kvs (ownD c))
    (h : ∀ o' kvs' h' tk, Fr h₀ L h' m → News h₀ L h' (u o') → o'.IsDictOf (PySem.strKind PySem.Challenge.rw_nu0122_01.row.prog w) kvs' → PyProof.V.FlatPairs PyData.str kvs' (ownD (ackF c n)) → Q .none { s with heap := h', toks := tk }) :
    wpAny (model PySem.Challenge.rw_nu0122_01.row.prog w) ⟨none, d, some (env :: outer), gs, un⟩ (call (.ref 126) [.ref ow, .int n tn]) Q E s := by
  have N₁ : News h₀ L s.heap [(ow, o)] := by
    obtain ⟨pre, post, rfl, _⟩ := U.split
    intro q hq
    exact N q (List.mem_append_right _ (by rw [List.mem_singleton.mp hq]; exact .head _))
  refine wpAny_call ?_
  refine' callS (A := ⟨none, d, some (env :: outer), gs, un⟩) (K := hd.heap_39 w.params) (mg := mg) (mb := mb) (p := hd.view_39)
    (fun r nw => ∃ o' kvs', (r = .none) ∧ (ow, o') ∈ nw ∧ o'.IsDictOf (PySem.strKind PySem.Challenge.rw_nu0122_01.row.prog w) kvs' ∧ PyProof.V.FlatPairs PyData.str kvs' (ownD (ackF c n))) B F X₀ N₁ T rfl hf hke ?ho ?hcd ?room ?bind ?loc ?co ?gen ?k ?cell ?body ?h
  case ho => k_is
  case hcd => k_is
  case room => show d < recursionLimit; omega
  case bind => exact BindsTo.of_eq rfl
  case loc => exact locs rfl
  case co => exact rfl
  case gen => exact rfl
  case k => exact rfl
  case cell => decide
  case h =>
    rintro _ h' tk nw e N' _ ⟨o', kvs', rfl, hm, hd', hfl'⟩
    obtain ⟨F', N''⟩ := eff_upd F N U (fun b x q nb => e b x q (by simpa using nb)) (N' _ hm)
    exact h o' kvs' h' tk F' N'' hd' hfl'
  case body =>
    intro g L' h₁ F' N' B' X' T'
    clear F N B X₀ T h U
    obtain ⟨mss, most, size, thr, gath, dup, rcv, caut⟩ := c
    cases rcv <;> cases caut
    all_goals (simp only [ownD, paceOf] at hfl)
    all_goals (try dsimp only)
    all_goals (try k_fold)
    all_goals k_steps
    all_goals (refine' back_end (by assumption) (by assumption) ?_)
    all_goals (refine' own_end rfl ?m ?d ?f ?e ?_; (case m => k_mem); (case d => assumption); (case f => assumption); (case e => first | (with_reducible exact rfl) | exact e8 (b1 := false) rfl | exact e8 (b1 := true) rfl))
    all_goals ((repeat ((with_reducible rename Fr _ _ _ _ => q9); clear q9)); (repeat ((with_reducible rename News _ _ _ _ => q9); clear q9)); (repeat ((with_reducible rename Below _ _ _ _ => q9); clear q9)); (repeat ((with_reducible rename Top _ _ _ _ _ _ => q9); clear q9)); (repeat ((with_reducible rename Frag.In _ _ => q9); clear q9)); (repeat ((with_reducible rename PyProof.V.FlatPairs _ _ _ => q9); clear q9)); (repeat ((with_reducible rename PyProof.V.Flat _ _ => q9); clear q9)); (repeat ((with_reducible rename Obj.IsDictOf _ _ _ => q9); clear q9)))
    all_goals (intro x2 x3 x4 hx2 hx3 hx4; (try dsimp only at *))
    all_goals (simp only [ackF, reduceIte, Bool.false_eq_true])
    all_goals ((repeat' split) <;> first | (exfalso; omega) | ((try unfold cap); congr 1 <;> first | rfl | omega) | (refine slow_eq _ _ x2 ?_ ?_; (· unfold slowW cap; (try simp only [reduceIte, Bool.false_eq_true]); omega); (· unfold slowF; subst hx3 hx4; dsimp only; split <;> first | rfl | (exfalso; omega))))
end
section
local macro_rules | `(tactic| k_room) => `(tactic| ((try simp only [depth_under_make, depth_under_kw, depth_in1, depth_deeper, depth_caller]); omega))

theorem duplicate_K {w : World} {A₀ : Around} {s : Shared} {base h₀ : Heap} {outer : List Env} {L : Addr} {m mg mb : Str → Option Value} {env : Env} {news : List (Addr × Obj)} {mean : ExcName → Option Value}
    {E : Value → Shared → Prop} {Q : Value → Shared → Prop} {d : Nat} {gs : Option (List Code)} {un : Nat} {x dx : Addr} {k v : Nat → Tok} {c : St} {n : Int} {tn : Tok} {u : Obj → List (Addr × Obj)}
    (B : Below A₀ base outer h₀) (F : Fr h₀ L s.heap m) (X₀ : (hd.heap_39 w.params).In h₀) (N : News h₀ L s.heap news) (T : Top hd.view_39 (looseW hd.view_39 []) mean mg mb h₀)
    (hf : env.frame = some L) (hke : env.scope.kind = .function) (hr : d + 20 < recursionLimit)
    (hx : (x, instObj 94 dx) ∈ news) (U : UpdF dx (dictOf (toldEs w k v c) 8) news u) (hne : @Ne Nat x dx)
    (h : ∀ t v' h' tk, Fr h₀ L h' m → News h₀ L h' (u (dictOf (toldEs w k v' (dupF c n)) 8)) → Q (.str (dupW c) t) { s with heap := h', toks := tk }) :
    wpAny (model PySem.Challenge.rw_nu0122_01.row.prog w) ⟨none, d, some (env :: outer), gs, un⟩ (call (.ref 77) [.ref x, .int n tn]) Q E s := by
  have hd' : (dx, dictOf (toldEs w k v c) 8) ∈ news := by
    obtain ⟨pre, post, rfl, _⟩ := U.split
    exact List.mem_append_right _ (.head _)
  have N₁ : News h₀ L s.heap [(x, instObj 94 dx), (dx, dictOf (toldEs w k v c) 8)] := by
    intro p hp
    rcases List.mem_cons.mp hp with rfl | hp
    · exact N _ hx
    · rw [List.mem_singleton.mp hp]; exact N _ hd'
  refine wpAny_call ?_
  refine' callS (A := ⟨none, d, some (env :: outer), gs, un⟩) (K := hd.heap_39 w.params) (mg := mg) (mb := mb) (p := hd.view_39)
    (fun r nw => ∃ v' c', (∃ t, r = .str (dupW c) t) ∧ c' = dupF c n ∧ (x, instObj 94 dx) ∈ nw ∧ (dx, dictOf (toldEs w k v' c') 8) ∈ nw) B F X₀ N₁ T rfl hf hke ?ho ?hcd ?room ?bind ?loc ?co ?gen ?k ?cell ?body ?h
  case ho => k_is
  case hcd => k_is
  case room => show d < recursionLimit; omega
  case bind => exact BindsTo.of_eq rfl
  case loc => exact locs rfl
  case co => exact rfl
  case gen => exact rfl
  case k => exact rfl
  case cell => decide
  case h =>
    rintro _ h' tk nw e N' _ ⟨v', _, ⟨t, rfl⟩, rfl, hm, hm2⟩
    obtain ⟨F', N''⟩ := eff_upd F N U (eff_two e (N _ hx).1 (N' _ hm)) (N' _ hm2)
    exact h t v' h' tk F' N''
  case body =>
    intro g L' h₁ F' N' B' X' T'
    clear F N B X₀ T
    (try dsimp only)
    (try k_fold)
    k_steps
    all_goals (refine' back_end (by assumption) (by assumption) ?_)
    all_goals (refine' told_end ?_ ?_)
    all_goals ((repeat ((with_reducible rename Fr _ _ _ _ => q9); clear q9)); (repeat ((with_reducible rename News _ _ _ _ => q9); clear q9)); (repeat ((with_reducible rename Below _ _ _ _ => q9); clear q9)); (repeat ((with_reducible rename Top _ _ _ _ _ _ => q9); clear q9)); (repeat ((with_reducible rename Frag.In _ _ => q9); clear q9)))
    all_goals clear U hx hd'
    all_goals (clear h; obtain ⟨mss, most, size, thr, gath, dup, rcv, caut⟩ := c; cases rcv <;> cases caut <;> first | contradiction | skip)
    all_goals first
      | (refine str_end ?_; unfold dupW; (try dsimp only at *); simp only [reduceIte, Bool.false_eq_true]; first | done | (split <;> first | rfl | (exfalso; omega)))
      | (intro x2 x3 x4 hx2 hx3 hx4; (try dsimp only at *); simp only [dupF, reduceIte, Bool.false_eq_true]; (repeat' split) <;> first | (exfalso; omega) | ((try unfold cap); (try unfold halfF); (try dsimp only); congr 1 <;> first | rfl | omega))
end
section
local macro_rules | `(tactic| k_room) => `(tactic| ((try simp only [depth_under_make, depth_under_kw, depth_in1, depth_deeper, depth_caller]); omega))

local macro_rules | `(tactic| walk_at "setItem ref str") => `(tactic| (k_here; (with_reducible rename Obj.IsDictOf _ _ _ => qd9); (with_reducible rename PyProof.V.FlatPairs _ _ _ => qf9); k_dflt (refine' set_own ?v ?F ?N ?U qd9 qf9 ?e ?z ?_; (case F => k_asm); (case N => k_asm); (case U => k_updF); (case v => k_flat); (case e => with_reducible first | exact put_window _ _ _ _ _ _ _ _ _ | exact put_threshold _ _ _ _ _ _ _ _ _ | exact put_credit _ _ _ _ _ _ _ _ _ | exact put_runs _ _ _ _ _ _ _ _ _ | exact put_recovering _ _ _ _ _ _ _ _ _ | exact put_pace _ _ _ _ _ _ _ _ _); (case z => exact Nat.le_of_ble_eq_true rfl); k_whole); intro h' o' kvs' tk' F' N' hd' hf'; (try dsimp only at N'); (try k_sweep); (clear qf9 qd9)))
theorem lawDuplicate_K {w : World} {A₀ : Around} {s : Shared} {base h₀ : Heap} {outer : List Env} {L : Addr} {m mg mb : Str → Option Value} {env : Env} {news : List (Addr × Obj)} {mean : ExcName → Option Value}
    {E : Value → Shared → Prop} {Q : Value → Shared → Prop} {d : Nat} {gs : Option (List Code)} {un : Nat} {ow : Addr} {o : Obj} {kvs : List (Str × Value)} {c : St} {n : Int} {tn : Tok} {u : Obj → List (Addr × Obj)}
    (B : Below A₀ base outer h₀) (F : Fr h₀ L s.heap m) (X₀ : (hd.heap_39 w.params).In h₀) (N : News h₀ L s.heap news) (T : Top hd.view_39 (looseW hd.view_39 []) mean mg mb h₀)
    (hf : env.frame = some L) (hke : env.scope.kind = .function) (hr : d + 20 < recursionLimit)
    (hlo : (ow == sysModules) = false) (U : UpdF ow o news u) (hdi : o.IsDictOf (PySem.strKind PySem.Challenge.rw_nu0122_01.row.prog w) kvs) (hfl : PyProof.V.FlatPairs PyData.str kvs (ownD c))
    (h : ∀ t o' kvs' h' tk, Fr h₀ L h' m → News h₀ L h' (u o') → o'.IsDictOf (PySem.strKind PySem.Challenge.rw_nu0122_01.row.prog w) kvs' → PyProof.V.FlatPairs PyData.str kvs' (ownD (dupF c n)) → Q (.str (dupW c) t) { s with heap := h', toks := tk }) :
    wpAny (model PySem.Challenge.rw_nu0122_01.row.prog w) ⟨none, d, some (env :: outer), gs, un⟩ (call (.ref 133) [.ref ow, .int n tn]) Q E s := by
  have N₁ : News h₀ L s.heap [(ow, o)] := by
    obtain ⟨pre, post, rfl, _⟩ := U.split
    intro q hq
    exact N q (List.mem_append_right _ (by rw [List.mem_singleton.mp hq]; exact .head _))
  refine wpAny_call ?_
  refine' callS (A := ⟨none, d, some (env :: outer), gs, un⟩) (K := hd.heap_39 w.params) (mg := mg) (mb := mb) (p := hd.view_39)
    (fun r nw => ∃ o' kvs', (∃ t, r = .str (dupW c) t) ∧ (ow, o') ∈ nw ∧ o'.IsDictOf (PySem.strKind PySem.Challenge.rw_nu0122_01.row.prog w) kvs' ∧ PyProof.V.FlatPairs PyData.str kvs' (ownD (dupF c n))) B F X₀ N₁ T rfl hf hke ?ho ?hcd ?room ?bind ?loc ?co ?gen ?k ?cell ?body ?h
  case ho => k_is
  case hcd => k_is
  case room => show d < recursionLimit; omega
  case bind => exact BindsTo.of_eq rfl
  case loc => exact locs rfl
  case co => exact rfl
  case gen => exact rfl
  case k => exact rfl
  case cell => decide
  case h =>
    rintro _ h' tk nw e N' _ ⟨o', kvs', ⟨t, rfl⟩, hm, hd', hfl'⟩
    obtain ⟨F', N''⟩ := eff_upd F N U (fun b x q nb => e b x q (by simpa using nb)) (N' _ hm)
    exact h t o' kvs' h' tk F' N'' hd' hfl'
  case body =>
    intro g L' h₁ F' N' B' X' T'
    clear F N B X₀ T h U
    obtain ⟨mss, most, size, thr, gath, dup, rcv, caut⟩ := c
    cases rcv <;> cases caut
    all_goals (simp only [ownD, paceOf] at hfl)
    all_goals (try dsimp only)
    all_goals (try k_fold)
    all_goals k_steps
    all_goals (refine' back_end (by assumption) (by assumption) ?_)
    all_goals (refine' own_end ?_ ?m ?d ?f ?e ?_; (case m => k_mem); (case d => assumption); (case f => assumption); (case e => first | (with_reducible exact rfl) | exact e8 (b1 := false) rfl | exact e8 (b1 := true) rfl))
    all_goals ((repeat ((with_reducible rename Fr _ _ _ _ => q9); clear q9)); (repeat ((with_reducible rename News _ _ _ _ => q9); clear q9)); (repeat ((with_reducible rename Below _ _ _ _ => q9); clear q9)); (repeat ((with_reducible rename Top _ _ _ _ _ _ => q9); clear q9)); (repeat ((with_reducible rename Frag.In _ _ => q9); clear q9)); (repeat ((with_reducible rename PyProof.V.FlatPairs _ _ _ => q9); clear q9)); (repeat ((with_reducible rename PyProof.V.Flat _ _ => q9); clear q9)); (repeat ((with_reducible rename Obj.IsDictOf _ _ _ => q9); clear q9)))
    all_goals first
      | (refine str_end ?_; unfold dupW; (try dsimp only at *); simp only [reduceIte, Bool.false_eq_true]; first | done | (split <;> first | rfl | (exfalso; omega)))
      | (intro x2 x3 x4 hx2 hx3 hx4; (try dsimp only at *); simp only [dupF, reduceIte, Bool.false_eq_true]; (repeat' split) <;> first | (exfalso; omega) | ((try unfold cap); (try unfold halfF); (try dsimp only); congr 1 <;> first | rfl | omega))
end
section
local macro_rules | `(tactic| k_room) => `(tactic| ((try simp only [depth_under_make, depth_under_kw, depth_in1, depth_deeper, depth_caller]); omega))

theorem late_K {w : World} {A₀ : Around} {s : Shared} {base h₀ : Heap} {outer : List Env} {L : Addr} {m mg mb : Str → Option Value} {env : Env} {news : List (Addr × Obj)} {mean : ExcName → Option Value}
    {E : Value → Shared → Prop} {Q : Value → Shared → Prop} {d : Nat} {gs : Option (List Code)} {un : Nat} {x dx : Addr} {k v : Nat → Tok} {c : St} {n : Int} {tn : Tok} {u : Obj → List (Addr × Obj)}
    (B : Below A₀ base outer h₀) (F : Fr h₀ L s.heap m) (X₀ : (hd.heap_39 w.params).In h₀) (N : News h₀ L s.heap news) (T : Top hd.view_39 (looseW hd.view_39 []) mean mg mb h₀)
    (hf : env.frame = some L) (hke : env.scope.kind = .function) (hr : d + 20 < recursionLimit)
    (hx : (x, instObj 94 dx) ∈ news) (U : UpdF dx (dictOf (toldEs w k v c) 8) news u) (hne : @Ne Nat x dx)
    (h : ∀ v' h' tk, Fr h₀ L h' m → News h₀ L h' (u (dictOf (toldEs w k v' (lateF c n)) 8)) → Q .none { s with heap := h', toks := tk }) :
    wpAny (model PySem.Challenge.rw_nu0122_01.row.prog w) ⟨none, d, some (env :: outer), gs, un⟩ (call (.ref 91) [.ref x, .int n tn]) Q E s := by
  have hd' : (dx, dictOf (toldEs w k v c) 8) ∈ news := by
    obtain ⟨pre, post, rfl, _⟩ := U.split
    exact List.mem_append_right _ (.head _)
  have N₁ : News h₀ L s.heap [(x, instObj 94 dx), (dx, dictOf (toldEs w k v c) 8)] := by
    intro p hp
    rcases List.mem_cons.mp hp with rfl | hp
    · exact N _ hx
    · rw [List.mem_singleton.mp hp]; exact N _ hd'
  refine wpAny_call ?_
  refine' callS (A := ⟨none, d, some (env :: outer), gs, un⟩) (K := hd.heap_39 w.params) (mg := mg) (mb := mb) (p := hd.view_39)
    (fun r nw => ∃ v' c', (r = .none) ∧ c' = lateF c n ∧ (x, instObj 94 dx) ∈ nw ∧ (dx, dictOf (toldEs w k v' c') 8) ∈ nw) B F X₀ N₁ T rfl hf hke ?ho ?hcd ?room ?bind ?loc ?co ?gen ?k ?cell ?body ?h
  case ho => k_is
  case hcd => k_is
  case room => show d < recursionLimit; omega
  case bind => exact BindsTo.of_eq rfl
  case loc => exact locs rfl
  case co => exact rfl
  case gen => exact rfl
  case k => exact rfl
  case cell => decide
  case h =>
    rintro _ h' tk nw e N' _ ⟨v', _, rfl, rfl, hm, hm2⟩
    obtain ⟨F', N''⟩ := eff_upd F N U (eff_two e (N _ hx).1 (N' _ hm)) (N' _ hm2)
    exact h v' h' tk F' N''
  case body =>
    intro g L' h₁ F' N' B' X' T'
    clear F N B X₀ T
    (try dsimp only)
    (try k_fold)
    k_steps
    all_goals (refine' back_end (by assumption) (by assumption) ?_)
    all_goals (refine' told_end rfl ?_)
    all_goals ((repeat ((with_reducible rename Fr _ _ _ _ => q9); clear q9)); (repeat ((with_reducible rename News _ _ _ _ => q9); clear q9)); (repeat ((with_reducible rename Below _ _ _ _ => q9); clear q9)); (repeat ((with_reducible rename Top _ _ _ _ _ _ => q9); clear q9)); (repeat ((with_reducible rename Frag.In _ _ => q9); clear q9)))
    all_goals clear U hx hd'
    all_goals (intro x2 x3 x4 hx2 hx3 hx4; (try dsimp only at *); unfold lateF halfF; (try dsimp only); congr 1 <;> first | rfl | omega)
end
section
local macro_rules | `(tactic| k_room) => `(tactic| ((try simp only [depth_under_make, depth_under_kw, depth_in1, depth_deeper, depth_caller]); omega))

local macro_rules | `(tactic| walk_at "setItem ref str") => `(tactic| (k_here; (with_reducible rename Obj.IsDictOf _ _ _ => qd9); (with_reducible rename PyProof.V.FlatPairs _ _ _ => qf9); k_dflt (refine' set_own ?v ?F ?N ?U qd9 qf9 ?e ?z ?_; (case F => k_asm); (case N => k_asm); (case U => k_updF); (case v => k_flat); (case e => with_reducible first | exact put_window _ _ _ _ _ _ _ _ _ | exact put_threshold _ _ _ _ _ _ _ _ _ | exact put_credit _ _ _ _ _ _ _ _ _ | exact put_runs _ _ _ _ _ _ _ _ _ | exact put_recovering _ _ _ _ _ _ _ _ _ | exact put_pace _ _ _ _ _ _ _ _ _); (case z => exact Nat.le_of_ble_eq_true rfl); k_whole); intro h' o' kvs' tk' F' N' hd' hf'; (try dsimp only at N'); (try k_sweep); (clear qf9 qd9)))
theorem lawLate_K {w : World} {A₀ : Around} {s : Shared} {base h₀ : Heap} {outer : List Env} {L : Addr} {m mg mb : Str → Option Value} {env : Env} {news : List (Addr × Obj)} {mean : ExcName → Option Value}
    {E : Value → Shared → Prop} {Q : Value → Shared → Prop} {d : Nat} {gs : Option (List Code)} {un : Nat} {ow : Addr} {o : Obj} {kvs : List (Str × Value)} {c : St} {n : Int} {tn : Tok} {u : Obj → List (Addr × Obj)}
    (B : Below A₀ base outer h₀) (F : Fr h₀ L s.heap m) (X₀ : (hd.heap_39 w.params).In h₀) (N : News h₀ L s.heap news) (T : Top hd.view_39 (looseW hd.view_39 []) mean mg mb h₀)
    (hf : env.frame = some L) (hke : env.scope.kind = .function) (hr : d + 20 < recursionLimit)
    (hlo : (ow == sysModules) = false) (U : UpdF ow o news u) (hdi : o.IsDictOf (PySem.strKind PySem.Challenge.rw_nu0122_01.row.prog w) kvs) (hfl : PyProof.V.FlatPairs PyData.str kvs (ownD c))
    (h : ∀ o' kvs' h' tk, Fr h₀ L h' m → News h₀ L h' (u o') → o'.IsDictOf (PySem.strKind PySem.Challenge.rw_nu0122_01.row.prog w) kvs' → PyProof.V.FlatPairs PyData.str kvs' (ownD (lateF c n)) → Q .none { s with heap := h', toks := tk }) :
    wpAny (model PySem.Challenge.rw_nu0122_01.row.prog w) ⟨none, d, some (env :: outer), gs, un⟩ (call (.ref 140) [.ref ow, .int n tn]) Q E s := by
  have N₁ : News h₀ L s.heap [(ow, o)] := by
    obtain ⟨pre, post, rfl, _⟩ := U.split
    intro q hq
    exact N q (List.mem_append_right _ (by rw [List.mem_singleton.mp hq]; exact .head _))
  refine wpAny_call ?_
  refine' callS (A := ⟨none, d, some (env :: outer), gs, un⟩) (K := hd.heap_39 w.params) (mg := mg) (mb := mb) (p := hd.view_39)
    (fun r nw => ∃ o' kvs', (r = .none) ∧ (ow, o') ∈ nw ∧ o'.IsDictOf (PySem.strKind PySem.Challenge.rw_nu0122_01.row.prog w) kvs' ∧ PyProof.V.FlatPairs PyData.str kvs' (ownD (lateF c n))) B F X₀ N₁ T rfl hf hke ?ho ?hcd ?room ?bind ?loc ?co ?gen ?k ?cell ?body ?h
  case ho => k_is
  case hcd => k_is
  case room => show d < recursionLimit; omega
  case bind => exact BindsTo.of_eq rfl
  case loc => exact locs rfl
  case co => exact rfl
  case gen => exact rfl
  case k => exact rfl
  case cell => decide
  case h =>
    rintro _ h' tk nw e N' _ ⟨o', kvs', rfl, hm, hd', hfl'⟩
    obtain ⟨F', N''⟩ := eff_upd F N U (fun b x q nb => e b x q (by simpa using nb)) (N' _ hm)
    exact h o' kvs' h' tk F' N'' hd' hfl'
  case body =>
    intro g L' h₁ F' N' B' X' T'
    clear F N B X₀ T h U
    simp only [ownD] at hfl
    all_goals (try dsimp only)
    all_goals (try k_fold)
    all_goals k_steps
    all_goals (refine' back_end (by assumption) (by assumption) ?_)
    all_goals (refine' own_end rfl ?m ?d ?f ?e ?_; (case m => k_mem); (case d => assumption); (case f => assumption); (case e => first | (with_reducible exact rfl) | exact e8 (b1 := false) rfl | exact e8 (b1 := true) rfl))
    all_goals ((repeat ((with_reducible rename Fr _ _ _ _ => q9); clear q9)); (repeat ((with_reducible rename News _ _ _ _ => q9); clear q9)); (repeat ((with_reducible rename Below _ _ _ _ => q9); clear q9)); (repeat ((with_reducible rename Top _ _ _ _ _ _ => q9); clear q9)); (repeat ((with_reducible rename Frag.In _ _ => q9); clear q9)); (repeat ((with_reducible rename PyProof.V.FlatPairs _ _ _ => q9); clear q9)); (repeat ((with_reducible rename PyProof.V.Flat _ _ => q9); clear q9)); (repeat ((with_reducible rename Obj.IsDictOf _ _ _ => q9); clear q9)))
    all_goals (intro x2 x3 x4 hx2 hx3 hx4; (try dsimp only at *); unfold lateF halfF; (try dsimp only); congr 1 <;> first | rfl | omega)
end
section
local macro_rules | `(tactic| k_room) => `(tactic| ((try simp only [depth_under_make, depth_under_kw, depth_in1, depth_deeper, depth_caller]); omega))

/-- frame and ledger behind a call that turned nothing -/
theorem eff_none {h₀ h h' : Heap} {L : Addr} {m : Str → Option Value} {news sub : List (Addr × Obj)} (F : Fr h₀ L h m) (N : News h₀ L h news)
    (e : ∀ b x, h.get? b = some x → b ∉ sub.map (·.1) → h'.get? b = some x) (N₁ : ∀ q ∈ sub, h.get? q.1 = some q.2) (N₂ : ∀ q ∈ sub, h'.get? q.1 = some q.2) : Fr h₀ L h' m ∧ News h₀ L h' news := by
  have all : ∀ b x, h.get? b = some x → h'.get? b = some x := by
    intro b x q
    by_cases hb : b ∈ sub.map (·.1)
    · obtain ⟨p, hp, rfl⟩ := List.mem_map.mp hb
      rw [N₁ p hp] at q
      rw [← q]
      exact N₂ p hp
    · exact e b x q hb
  obtain ⟨oL, es, ep, hL, r⟩ := F.ns
  exact ⟨⟨⟨oL, es, ep, all _ _ hL, r⟩, fun b x q => all _ _ (F.keep b x q), F.above⟩, fun p hp => ⟨all _ _ (N p hp).1, (N p hp).2⟩⟩

theorem isLike_K {w : World} {A₀ : Around} {s : Shared} {base h₀ : Heap} {outer : List Env} {L : Addr} {m mg mb : Str → Option Value} {env : Env} {news : List (Addr × Obj)} {mean : ExcName → Option Value}
    {E : Value → Shared → Prop} {Q : Value → Shared → Prop} {d : Nat} {gs : Option (List Code)} {un : Nat} {x dx ow : Addr} {k v : Nat → Tok} {c : St} {o : Obj} {kvs : List (Str × Value)}
    (B : Below A₀ base outer h₀) (F : Fr h₀ L s.heap m) (X₀ : (hd.heap_39 w.params).In h₀) (N : News h₀ L s.heap news) (T : Top hd.view_39 (looseW hd.view_39 []) mean mg mb h₀)
    (hf : env.frame = some L) (hke : env.scope.kind = .function) (hr : d + 20 < recursionLimit)
    (hx : (x, instObj 94 dx) ∈ news) (hdx : (dx, dictOf (toldEs w k v c) 8) ∈ news) (ho : (ow, o) ∈ news)
    (hlo : (ow == sysModules) = false) (hdi : o.IsDictOf (PySem.strKind PySem.Challenge.rw_nu0122_01.row.prog w) kvs) (hfl : PyProof.V.FlatPairs PyData.str kvs (ownD c))
    (h : ∀ h' tk, Fr h₀ L h' m → News h₀ L h' news → Q (.bool true) { s with heap := h', toks := tk }) :
    wpAny (model PySem.Challenge.rw_nu0122_01.row.prog w) ⟨none, d, some (env :: outer), gs, un⟩ (call (.ref 147) [.ref x, .ref ow]) Q E s := by
  have N₁ : News h₀ L s.heap [(x, instObj 94 dx), (dx, dictOf (toldEs w k v c) 8), (ow, o)] := by
    intro p hp
    rcases List.mem_cons.mp hp with rfl | hp
    · exact N _ hx
    rcases List.mem_cons.mp hp with rfl | hp
    · exact N _ hdx
    · rw [List.mem_singleton.mp hp]; exact N _ ho
  refine wpAny_call ?_
  refine' callS (A := ⟨none, d, some (env :: outer), gs, un⟩) (K := hd.heap_39 w.params) (mg := mg) (mb := mb) (p := hd.view_39)
    (fun r nw => r = .bool true ∧ nw = [(x, instObj 94 dx), (dx, dictOf (toldEs w k v c) 8), (ow, o)]) B F X₀ N₁ T rfl hf hke ?ho ?hcd ?room ?bind ?loc ?co ?gen ?k ?cell ?body ?h
  case ho => k_is
  case hcd => k_is
  case room => show d < recursionLimit; omega
  case bind => exact BindsTo.of_eq rfl
  case loc => exact locs rfl
  case co => exact rfl
  case gen => exact rfl
  case k => exact rfl
  case cell => decide
  case h =>
    rintro _ h' tk nw e N' _ ⟨rfl, rfl⟩
    obtain ⟨F', N''⟩ := eff_none F N e (fun q hq => (N₁ q hq).1) N'
    exact h h' tk F' N''
  case body =>
    intro g L' h₁ F' N' B' X' T'
    clear F N B X₀ T h hx hdx ho N₁
    (try dsimp only)
    (try k_fold)
    k_steps
    all_goals (refine' back_end (by assumption) (by assumption) ?_)
    all_goals first
      | exact absurd rfl (by assumption)
      | exact ⟨congrArg Value.bool (beq_self_eq_true _), rfl⟩
end
section
/-- what stands between the events -/
structure Inv (M T : Int) (c : St) : Prop where
  mss : c.mss = M
  most : c.most = T
  one : 1 ≤ M
  le : M ≤ T
  lo : M ≤ c.size
  hi : c.size ≤ T
  thr : M ≤ c.thr

theorem inv_ack {M T : Int} {c : St} {n : Int} (I : Inv M T c) (hn : 0 ≤ n) : Inv M T (ackF c n) := by
  obtain ⟨h1, h2, h3, h4, h5, h6, h7⟩ := I
  unfold ackF slowF slowW cap
  (repeat' split) <;> (constructor <;> (try dsimp only) <;> (repeat' split) <;> omega)

theorem inv_dup {M T : Int} {c : St} {n : Int} (I : Inv M T c) : Inv M T (dupF c n) := by
  obtain ⟨h1, h2, h3, h4, h5, h6, h7⟩ := I
  unfold dupF halfF cap
  (repeat' split) <;> (constructor <;> (try dsimp only) <;> (repeat' split) <;> omega)

theorem inv_late {M T : Int} {c : St} {n : Int} (I : Inv M T c) : Inv M T (lateF c n) := by
  obtain ⟨h1, h2, h3, h4, h5, h6, h7⟩ := I
  unfold lateF halfF
  constructor <;> (try dsimp only) <;> (repeat' split) <;> omega

/-- frame and ledger behind a call that turned the four objects at the ledger's head -/
theorem eff_four {h₀ h h' : Heap} {L l x dx ow : Addr} {m : Str → Option Value} {rest : List (Addr × Obj)} {o1 o2 o3 o4 p1 p2 p3 p4 : Obj} (F : Fr h₀ L h m)
    (N : News h₀ L h ((l, o1) :: (x, o2) :: (dx, o3) :: (ow, o4) :: rest))
    (e : ∀ b z, h.get? b = some z → b ∉ [l, x, dx, ow] → h'.get? b = some z) (off : ∀ p ∈ rest, p.1 ∉ [l, x, dx, ow])
    (e1 : h'.get? l = some p1) (e2 : h'.get? x = some p2) (e3 : h'.get? dx = some p3) (e4 : h'.get? ow = some p4) :
    Fr h₀ L h' m ∧ News h₀ L h' ((l, p1) :: (x, p2) :: (dx, p3) :: (ow, p4) :: rest) := by
  have m1 := N _ (List.Mem.head _)
  have m2 := N _ (.tail _ (.head _))
  have m3 := N _ (.tail _ (.tail _ (.head _)))
  have m4 := N _ (.tail _ (.tail _ (.tail _ (.head _))))
  obtain ⟨oL, es, ep, hL, r⟩ := F.ns
  have nL : L ∉ [l, x, dx, ow] := by
    intro q
    simp only [List.mem_cons, List.not_mem_nil, or_false] at q
    rcases q with q | q | q | q
    · exact m1.2.1 q.symm
    · exact m2.2.1 q.symm
    · exact m3.2.1 q.symm
    · exact m4.2.1 q.symm
  have n0 : ∀ b z, h₀.get? b = some z → b ∉ [l, x, dx, ow] := by
    intro b z hb q
    simp only [List.mem_cons, List.not_mem_nil, or_false] at q
    rcases q with q | q | q | q
    · have := m1.2.2; rw [← q, hb] at this; cases this
    · have := m2.2.2; rw [← q, hb] at this; cases this
    · have := m3.2.2; rw [← q, hb] at this; cases this
    · have := m4.2.2; rw [← q, hb] at this; cases this
  refine ⟨⟨⟨oL, es, ep, e _ _ hL nL, r⟩, fun b z q => e b z (F.keep b z q) (n0 b z q), F.above⟩, ?_⟩
  intro p hp
  rcases List.mem_cons.mp hp with rfl | hp
  · exact ⟨e1, m1.2⟩
  rcases List.mem_cons.mp hp with rfl | hp
  · exact ⟨e2, m2.2⟩
  rcases List.mem_cons.mp hp with rfl | hp
  · exact ⟨e3, m3.2⟩
  rcases List.mem_cons.mp hp with rfl | hp
  · exact ⟨e4, m4.2⟩
  have P := N p (.tail _ (.tail _ (.tail _ (.tail _ hp))))
  exact ⟨e _ _ P.1 (off p hp), P.2⟩

/-- a loop's letters: the source's two ints, the object's state, the own dict -/
structure Ls where
  a : Int
  b : Int
  ta : Tok
  tb : Tok
  v : Nat → Tok
  c : St
  o : Obj
  kvs : List (Str × Value)

structure LsOk (w : World) (M T : Int) (z : Ls) : Prop where
  a0 : 0 ≤ z.a
  b0 : 0 ≤ z.b
  b1 : z.b < 2147483647
  inv : Inv M T z.c
  dict : z.o.IsDictOf (PySem.strKind PySem.Challenge.rw_nu0122_01.row.prog w) z.kvs
  flat : PyProof.V.FlatPairs PyData.str z.kvs (ownD z.c)

def ledOf (w : World) (l : Addr) (n : Nat) (x dx ow : Addr) (k : Nat → Tok) (rest : List (Addr × Obj)) (z : Ls) : List (Addr × Obj) :=
  (l, W.listOf #[.int z.a z.ta, .int z.b z.tb] n) :: (x, instObj 94 dx) :: (dx, dictOf (toldEs w k z.v z.c) 8) :: (ow, z.o) :: rest
end
section
local macro_rules | `(tactic| k_room) => `(tactic| ((try simp only [depth_under_make, depth_under_kw, depth_in1, depth_deeper, depth_caller]); first | decide | omega))
local macro_rules | `(tactic| walk_at "call ref") => `(tactic| ((with_reducible show wpAny _ _ (call (Value.ref 112) [Value.ref _, Value.int _ _]) _ _ _); k_dflt (refine' take_K ?k1 ?k2 ?k3 ?k4 ?k5 ?kF ?kK ?kr ?kU ?c1 ?c2 ?c3 ?c4 ?c5 ?_; (case kF => exact rfl); (case kK => exact rfl); (case k1 => k_asm); (case k2 => k_asm); (case k3 => k_asm); (case k4 => k_asm); (case k5 => k_asm); (case kr => k_room); (case kU => k_updF); (case c1 => assumption); (case c2 => assumption); (case c3 => assumption); (case c4 => omega); (case c5 => omega); k_whole); intro r' a' b' tr' ta' tb' h' tk' g1' g2' g3' g4' g5' F' N'; (try dsimp only at N'); (try k_sweep)))
local macro_rules | `(tactic| walk_at "call ref") => `(tactic| ((with_reducible show wpAny _ _ (call (Value.ref 119) [Value.ref _, Value.ref _]) _ _ _); k_dflt (refine' one_K ?k1 ?k2 ?k3 ?k4 ?k5 ?kF ?kK ?kr ?kU ?c1 ?c2 ?c3 ?cq ?ci ?c4 ?c5 ?cn ?_; (case kF => exact rfl); (case kK => exact rfl); (case k1 => k_asm); (case k2 => k_asm); (case k3 => k_asm); (case k4 => k_asm); (case k5 => k_asm); (case kr => k_room); (case kU => k_updF); (case c1 => assumption); (case c2 => assumption); (case c3 => assumption); (case cq => k_mem); (case ci => repeat constructor); (case c4 => exact Nat.succ_pos _); (case c5 => exact Nat.le_of_ble_eq_true rfl); (case cn => k_ne); k_whole); intro r' a' b' tr' ta' tb' h' tk' g1' g3' g4' g5' F' N'; (try simp only [List.mem_cons, List.not_mem_nil, or_false] at g1'); (try dsimp only at N'); (try k_sweep)))
local macro_rules | `(tactic| walk_at "call ref") => `(tactic| ((with_reducible show wpAny _ _ (call (Value.ref 105) [Value.ref _, Value.int _ _]) _ _ _); k_dflt (refine' pool_K ?k1 ?k2 ?k3 ?k4 ?k5 ?kF ?kK ?kr ?c1 ?c2 ?c3 ?c4 ?c5 ?_; (case kF => exact rfl); (case kK => exact rfl); (case k1 => k_asm); (case k2 => k_asm); (case k3 => k_asm); (case k4 => k_asm); (case k5 => k_asm); (case kr => k_room); (case c1 => assumption); (case c2 => assumption); (case c3 => assumption); (case c4 => omega); (case c5 => omega); k_whole); intro l' a' b' ta' tb' h' tk' g1' g2' g3' F' N' l1; (try dsimp only at N'); (try k_lt l1); (try k_sweep)))
local macro_rules | `(tactic| walk_at "call ref") => `(tactic| ((with_reducible show wpAny _ _ (call (Value.ref 56) [Value.ref _, Value.int _ _]) _ _ _); k_dflt (refine' acked_K ?k1 ?k2 ?k3 ?k4 ?k5 ?kF ?kK ?kr ?hx ?kU ?cn ?_; (case kF => exact rfl); (case kK => exact rfl); (case k1 => k_asm); (case k2 => k_asm); (case k3 => k_asm); (case k4 => k_asm); (case k5 => k_asm); (case kr => k_room); (case hx => k_mem); (case kU => k_updF); (case cn => k_ne); k_whole); intro v' h' tk' F' N'; (try dsimp only at N'); (try k_sweep)))
local macro_rules | `(tactic| walk_at "call ref") => `(tactic| ((with_reducible show wpAny _ _ (call (Value.ref 77) [Value.ref _, Value.int _ _]) _ _ _); k_dflt (refine' duplicate_K ?k1 ?k2 ?k3 ?k4 ?k5 ?kF ?kK ?kr ?hx ?kU ?cn ?_; (case kF => exact rfl); (case kK => exact rfl); (case k1 => k_asm); (case k2 => k_asm); (case k3 => k_asm); (case k4 => k_asm); (case k5 => k_asm); (case kr => k_room); (case hx => k_mem); (case kU => k_updF); (case cn => k_ne); k_whole); intro t' v' h' tk' F' N'; (try dsimp only at N'); (try k_sweep)))
local macro_rules | `(tactic| walk_at "call ref") => `(tactic| ((with_reducible show wpAny _ _ (call (Value.ref 91) [Value.ref _, Value.int _ _]) _ _ _); k_dflt (refine' late_K ?k1 ?k2 ?k3 ?k4 ?k5 ?kF ?kK ?kr ?hx ?kU ?cn ?_; (case kF => exact rfl); (case kK => exact rfl); (case k1 => k_asm); (case k2 => k_asm); (case k3 => k_asm); (case k4 => k_asm); (case k5 => k_asm); (case kr => k_room); (case hx => k_mem); (case kU => k_updF); (case cn => k_ne); k_whole); intro v' h' tk' F' N'; (try dsimp only at N'); (try k_sweep)))
local macro_rules | `(tactic| walk_at "call ref") => `(tactic| ((with_reducible show wpAny _ _ (call (Value.ref 126) [Value.ref _, Value.int _ _]) _ _ _); (with_reducible rename Obj.IsDictOf _ _ _ => qd9); (with_reducible rename PyProof.V.FlatPairs _ _ _ => qf9); k_dflt (refine' lawAcked_K ?k1 ?k2 ?k3 ?k4 ?k5 ?kF ?kK ?kr ?hlo ?kU qd9 qf9 ?_; (case kF => exact rfl); (case kK => exact rfl); (case k1 => k_asm); (case k2 => k_asm); (case k3 => k_asm); (case k4 => k_asm); (case k5 => k_asm); (case kr => k_room); (case hlo => assumption); (case kU => k_updF); k_whole); intro o' kvs' h' tk' F' N' hd' hf'; (try dsimp only at N'); (try k_sweep); (clear qf9 qd9)))
local macro_rules | `(tactic| walk_at "call ref") => `(tactic| ((with_reducible show wpAny _ _ (call (Value.ref 133) [Value.ref _, Value.int _ _]) _ _ _); (with_reducible rename Obj.IsDictOf _ _ _ => qd9); (with_reducible rename PyProof.V.FlatPairs _ _ _ => qf9); k_dflt (refine' lawDuplicate_K ?k1 ?k2 ?k3 ?k4 ?k5 ?kF ?kK ?kr ?hlo ?kU qd9 qf9 ?_; (case kF => exact rfl); (case kK => exact rfl); (case k1 => k_asm); (case k2 => k_asm); (case k3 => k_asm); (case k4 => k_asm); (case k5 => k_asm); (case kr => k_room); (case hlo => assumption); (case kU => k_updF); k_whole); intro t' o' kvs' h' tk' F' N' hd' hf'; (try dsimp only at N'); (try k_sweep); (clear qf9 qd9)))
local macro_rules | `(tactic| walk_at "call ref") => `(tactic| ((with_reducible show wpAny _ _ (call (Value.ref 140) [Value.ref _, Value.int _ _]) _ _ _); (with_reducible rename Obj.IsDictOf _ _ _ => qd9); (with_reducible rename PyProof.V.FlatPairs _ _ _ => qf9); k_dflt (refine' lawLate_K ?k1 ?k2 ?k3 ?k4 ?k5 ?kF ?kK ?kr ?hlo ?kU qd9 qf9 ?_; (case kF => exact rfl); (case kK => exact rfl); (case k1 => k_asm); (case k2 => k_asm); (case k3 => k_asm); (case k4 => k_asm); (case k5 => k_asm); (case kr => k_room); (case hlo => assumption); (case kU => k_updF); k_whole); intro o' kvs' h' tk' F' N' hd' hf'; (try dsimp only at N'); (try k_sweep); (clear qf9 qd9)))
local macro_rules | `(tactic| walk_at "call ref") => `(tactic| ((with_reducible show wpAny _ _ (call (Value.ref 147) [Value.ref _, Value.ref _]) _ _ _); (with_reducible rename Obj.IsDictOf _ _ _ => qd9); (with_reducible rename PyProof.V.FlatPairs _ _ _ => qf9); k_dflt (refine' isLike_K ?k1 ?k2 ?k3 ?k4 ?k5 ?kF ?kK ?kr ?hx ?hdx ?ho ?hlo qd9 qf9 ?_; (case kF => exact rfl); (case kK => exact rfl); (case k1 => k_asm); (case k2 => k_asm); (case k3 => k_asm); (case k4 => k_asm); (case k5 => k_asm); (case kr => k_room); (case hx => k_mem); (case hdx => k_mem); (case ho => k_mem); (case hlo => assumption); k_whole); intro h' tk' F' N'; (try k_sweep)))
theorem led_K {w : World} {A₀ : Around} {s : Shared} {base h₀ : Heap} {outer : List Env} {L : Addr} {m mg mb : Str → Option Value} {env : Env} {rest : List (Addr × Obj)} {mean : ExcName → Option Value}
    {E : Value → Shared → Prop} {Q : Value → Shared → Prop} {d : Nat} {gs : Option (List Code)} {un : Nat} {l x dx ow : Addr} {k : Nat → Tok} {n : Nat} {z : Ls} {M T' : Int}
    (B : Below A₀ base outer h₀) (F : Fr h₀ L s.heap m) (X₀ : (hd.heap_39 w.params).In h₀) (N : News h₀ L s.heap (ledOf w l n x dx ow k rest z)) (T : Top hd.view_39 (looseW hd.view_39 []) mean mg mb h₀)
    (hf : env.frame = some L) (hke : env.scope.kind = .function) (hr : d + 40 < recursionLimit)
    (hz : LsOk w M T' z) (hlo : (ow == sysModules) = false) (n1 : @Ne Nat l x) (n2 : @Ne Nat l dx) (n3 : @Ne Nat l ow) (n4 : @Ne Nat x dx) (n5 : @Ne Nat x ow) (n6 : @Ne Nat dx ow) (hoff : ∀ p ∈ rest, p.1 ∉ [l, x, dx, ow])
    (h : ∀ z' h' tk, LsOk w M T' z' → Fr h₀ L h' m → News h₀ L h' (ledOf w l n x dx ow k rest z') → Q (.bool true) { s with heap := h', toks := tk }) :
    wpAny (model PySem.Challenge.rw_nu0122_01.row.prog w) ⟨none, d, some (env :: outer), gs, un⟩ (call (.ref 154) [.ref l, .ref x, .ref ow]) Q E s := by
  have N₁ : News h₀ L s.heap (ledOf w l n x dx ow k [] z) := by
    intro p hp
    refine N p ?_
    unfold ledOf at hp ⊢
    simp only [List.mem_cons, List.not_mem_nil, or_false] at hp ⊢
    rcases hp with hp | hp | hp | hp
    · exact .inl hp
    · exact .inr (.inl hp)
    · exact .inr (.inr (.inl hp))
    · exact .inr (.inr (.inr (.inl hp)))
  refine wpAny_call ?_
  refine' callS (A := ⟨none, d, some (env :: outer), gs, un⟩) (K := hd.heap_39 w.params) (mg := mg) (mb := mb) (p := hd.view_39)
    (fun r nw => ∃ z', r = .bool true ∧ LsOk w M T' z' ∧ ∀ p ∈ ledOf w l n x dx ow k [] z', p ∈ nw) B F X₀ N₁ T rfl hf hke ?ho ?hcd ?room ?bind ?loc ?co ?gen ?k ?cell ?body ?h
  case ho => k_is
  case hcd => k_is
  case room => show d < recursionLimit; omega
  case bind => exact BindsTo.of_eq rfl
  case loc => exact locs rfl
  case co => exact rfl
  case gen => exact rfl
  case k => exact rfl
  case cell => decide
  case h =>
    rintro _ h' tk nw e N' _ ⟨z', rfl, hz', hm⟩
    obtain ⟨F', N''⟩ := eff_four F N e hoff (N' _ (hm _ (.head _))) (N' _ (hm _ (.tail _ (.head _)))) (N' _ (hm _ (.tail _ (.tail _ (.head _))))) (N' _ (hm _ (.tail _ (.tail _ (.tail _ (.head _))))))
    exact h z' h' tk hz' F' N''
  case body =>
    intro g L' h₁ F' N' B' X' T₁
    clear F N B X₀ T h N₁ hoff
    obtain ⟨a, b, ta, tb, v, c, o, kvs⟩ := z
    obtain ⟨a0, b0, b1, inv, hdi, hfl⟩ := hz
    dsimp only [ledOf] at a0 b0 b1 inv hdi hfl N'
    (try dsimp only)
    (try k_fold)
    (repeat' ((fail_if_success (with_reducible show wpAny _ _ (pyIter _) _ _ _)); first | (k_unfold; (try dsimp only)) | walk1 | (dsimp only; walk1) | (leave1; (try dsimp only)) | fail "no step"))
    rotate_left
    rename Fr _ _ _ _ => lF'
    rename News _ _ _ _ => lN'
    rename IsRange _ _ _ _ _ _ _ _ => rgX
    refine' kst_range (σ := Ls) (ledOf w l n x dx ow k []) (fun _ => []) (LsOk w M T') [Str.ofString "flight"] (fun _ _ => True) ⟨_, _, _, _, _, _, _, _⟩ rfl rgX ?hs (rangeSize_nat _ _) lF' ?kn ?kf ?kk trivial ?_ ?_
    case hs => exact small_one (by omega) (by omega) (by omega) (by omega)
    case kn =>
      refine kst_newsOf lN' ?_
      unfold ledOf
      refine List.forall_mem_cons.mpr ⟨by k_dflt k_mem, List.forall_mem_cons.mpr ⟨by k_dflt k_mem, List.forall_mem_cons.mpr ⟨by k_dflt k_mem, List.forall_mem_cons.mpr ⟨by k_dflt k_mem, List.forall_mem_nil _⟩⟩⟩⟩
    case kf => constructor <;> (try dsimp only) <;> assumption
    case kk => exact List.forall_mem_nil _
    · intro z pre kk t u h' tk own hkk hlt hoff hz _ F' N'
      clear lF' lN' rgX
      obtain ⟨a, b, ta, tb, v, c', o', kvs'⟩ := z
      clear hdi hfl
      obtain ⟨a0, b0, b1, inv', hdi', hfl'⟩ := hz
      dsimp only [ledOf, List.cons_append, List.nil_append] at a0 b0 b1 inv' hdi' hfl' N' hoff
      (all_goals try k_fold)
      (repeat' ((fail_if_success (with_reducible show wpAny _ _ (pyIter _) _ _ _)); (fail_if_success (with_reducible show InvEndN _ _ _ _ _ _ _)); first | (k_unfold; (try dsimp only)) | walk1 | (dsimp only; walk1) | (leave1; (try dsimp only)) | fail "no step"))
      · exact absurd (show (dupW _ != dupW _) = true by assumption) (by simp)
      · refine' kst_end ⟨_, _, _, _, _, _, _, _⟩ (by assumption) (by assumption) ?hn ?ho rfl ?hf (List.forall_mem_nil _) ?hr trivial
        case hn =>
          unfold ledOf
          refine List.forall_mem_cons.mpr ⟨by k_dflt k_mem, List.forall_mem_cons.mpr ⟨by k_dflt k_mem, List.forall_mem_cons.mpr ⟨by k_dflt k_mem, List.forall_mem_cons.mpr ⟨by k_dflt k_mem, List.forall_mem_nil _⟩⟩⟩⟩
        case ho => intro p hp; exact .tail _ (.tail _ (.tail _ (.tail _ (.tail _ hp))))
        case hf => exact ⟨by assumption, by assumption, by assumption, inv_dup inv', by assumption, by assumption⟩
        case hr =>
          intro y h1 h2 h3
          have h4 : y ≠ Str.ofString "flight" := fun e => absurd (e ▸ h3) (by decide)
          exact (if_neg h4).trans ((if_neg h1).trans (if_neg (by rw [h3]; decide)))
    · intro z u h' tk hz _ F' N'
      clear lF' lN' rgX
      obtain ⟨a, b, ta, tb, v, c', o', kvs'⟩ := z
      clear hdi hfl
      obtain ⟨a0, b0, b1, inv', hdi', hfl'⟩ := hz
      dsimp only [ledOf] at a0 b0 b1 inv' hdi' hfl' N'
      (all_goals try k_fold)
      (repeat' ((fail_if_success (with_reducible show wpAny _ _ (pyIter _) _ _ _)); first | (k_unfold; (try dsimp only)) | walk1 | (dsimp only; walk1) | (leave1; (try dsimp only)) | fail "no step"))
      (refine' back_end (by assumption) (by assumption) ⟨⟨_, _, _, _, _, _, _, _⟩, rfl, ?ok, ?mem⟩)
      case mem =>
        unfold ledOf
        refine List.forall_mem_cons.mpr ⟨by k_dflt k_mem, List.forall_mem_cons.mpr ⟨by k_dflt k_mem, List.forall_mem_cons.mpr ⟨by k_dflt k_mem, List.forall_mem_cons.mpr ⟨by k_dflt k_mem, List.forall_mem_nil _⟩⟩⟩⟩
      case ok => exact ⟨by assumption, by assumption, by assumption, inv', by assumption, by assumption⟩
    · (refine' back_end (by assumption) (by assumption) ⟨⟨_, _, _, _, _, _, _, _⟩, rfl, ?ok, ?mem⟩)
      case mem =>
        unfold ledOf
        refine List.forall_mem_cons.mpr ⟨by k_dflt k_mem, List.forall_mem_cons.mpr ⟨by k_dflt k_mem, List.forall_mem_cons.mpr ⟨by k_dflt k_mem, List.forall_mem_cons.mpr ⟨by k_dflt k_mem, List.forall_mem_nil _⟩⟩⟩⟩
      case ok => exact ⟨by assumption, by assumption, by assumption, inv_late inv, by assumption, by assumption⟩
    · (refine' back_end (by assumption) (by assumption) ⟨⟨_, _, _, _, _, _, _, _⟩, rfl, ?ok, ?mem⟩)
      case mem =>
        unfold ledOf
        refine List.forall_mem_cons.mpr ⟨by k_dflt k_mem, List.forall_mem_cons.mpr ⟨by k_dflt k_mem, List.forall_mem_cons.mpr ⟨by k_dflt k_mem, List.forall_mem_cons.mpr ⟨by k_dflt k_mem, List.forall_mem_nil _⟩⟩⟩⟩
      case ok => exact ⟨by assumption, by assumption, by assumption, inv_ack inv (by have q1 := inv.mss; have q2 := inv.one; omega), by assumption, by assumption⟩
end
section
local macro_rules | `(tactic| k_room) => `(tactic| ((try simp only [depth_under_make, depth_under_kw, depth_in1, depth_deeper, depth_caller]); first | decide | omega))
local macro_rules | `(tactic| walk_at "call ref") => `(tactic| ((with_reducible show wpAny _ _ (call (Value.ref 112) [Value.ref _, Value.int _ _]) _ _ _); k_dflt (refine' take_K ?k1 ?k2 ?k3 ?k4 ?k5 ?kF ?kK ?kr ?kU ?c1 ?c2 ?c3 ?c4 ?c5 ?_; (case kF => exact rfl); (case kK => exact rfl); (case k1 => k_asm); (case k2 => k_asm); (case k3 => k_asm); (case k4 => k_asm); (case k5 => k_asm); (case kr => k_room); (case kU => k_updF); (case c1 => assumption); (case c2 => assumption); (case c3 => assumption); (case c4 => omega); (case c5 => omega); k_whole); intro r' a' b' tr' ta' tb' h' tk' g1' g2' g3' g4' g5' F' N'; (try dsimp only at N'); (try k_sweep)))
local macro_rules | `(tactic| walk_at "call ref") => `(tactic| ((with_reducible show wpAny _ _ (call (Value.ref 119) [Value.ref _, Value.ref _]) _ _ _); k_dflt (refine' one_K ?k1 ?k2 ?k3 ?k4 ?k5 ?kF ?kK ?kr ?kU ?c1 ?c2 ?c3 ?cq ?ci ?c4 ?c5 ?cn ?_; (case kF => exact rfl); (case kK => exact rfl); (case k1 => k_asm); (case k2 => k_asm); (case k3 => k_asm); (case k4 => k_asm); (case k5 => k_asm); (case kr => k_room); (case kU => k_updF); (case c1 => assumption); (case c2 => assumption); (case c3 => assumption); (case cq => k_mem); (case ci => repeat constructor); (case c4 => exact Nat.succ_pos _); (case c5 => exact Nat.le_of_ble_eq_true rfl); (case cn => k_ne); k_whole); intro r' a' b' tr' ta' tb' h' tk' g1' g3' g4' g5' F' N'; (try simp only [List.mem_cons, List.not_mem_nil, or_false] at g1'); (try dsimp only at N'); (try k_sweep)))
local macro_rules | `(tactic| walk_at "call ref") => `(tactic| ((with_reducible show wpAny _ _ (call (Value.ref 105) [Value.ref _, Value.int _ _]) _ _ _); k_dflt (refine' pool_K ?k1 ?k2 ?k3 ?k4 ?k5 ?kF ?kK ?kr ?c1 ?c2 ?c3 ?c4 ?c5 ?_; (case kF => exact rfl); (case kK => exact rfl); (case k1 => k_asm); (case k2 => k_asm); (case k3 => k_asm); (case k4 => k_asm); (case k5 => k_asm); (case kr => k_room); (case c1 => assumption); (case c2 => assumption); (case c3 => assumption); (case c4 => omega); (case c5 => omega); k_whole); intro l' a' b' ta' tb' h' tk' g1' g2' g3' F' N' l1; (try dsimp only at N'); (try k_lt l1); (try k_sweep)))
local macro_rules | `(tactic| walk_at "call ref") => `(tactic| ((with_reducible show wpAny _ _ (call (Value.ref 56) [Value.ref _, Value.int _ _]) _ _ _); k_dflt (refine' acked_K ?k1 ?k2 ?k3 ?k4 ?k5 ?kF ?kK ?kr ?hx ?kU ?cn ?_; (case kF => exact rfl); (case kK => exact rfl); (case k1 => k_asm); (case k2 => k_asm); (case k3 => k_asm); (case k4 => k_asm); (case k5 => k_asm); (case kr => k_room); (case hx => k_mem); (case kU => k_updF); (case cn => k_ne); k_whole); intro v' h' tk' F' N'; (try dsimp only at N'); (try k_sweep)))
local macro_rules | `(tactic| walk_at "call ref") => `(tactic| ((with_reducible show wpAny _ _ (call (Value.ref 77) [Value.ref _, Value.int _ _]) _ _ _); k_dflt (refine' duplicate_K ?k1 ?k2 ?k3 ?k4 ?k5 ?kF ?kK ?kr ?hx ?kU ?cn ?_; (case kF => exact rfl); (case kK => exact rfl); (case k1 => k_asm); (case k2 => k_asm); (case k3 => k_asm); (case k4 => k_asm); (case k5 => k_asm); (case kr => k_room); (case hx => k_mem); (case kU => k_updF); (case cn => k_ne); k_whole); intro t' v' h' tk' F' N'; (try dsimp only at N'); (try k_sweep)))
local macro_rules | `(tactic| walk_at "call ref") => `(tactic| ((with_reducible show wpAny _ _ (call (Value.ref 91) [Value.ref _, Value.int _ _]) _ _ _); k_dflt (refine' late_K ?k1 ?k2 ?k3 ?k4 ?k5 ?kF ?kK ?kr ?hx ?kU ?cn ?_; (case kF => exact rfl); (case kK => exact rfl); (case k1 => k_asm); (case k2 => k_asm); (case k3 => k_asm); (case k4 => k_asm); (case k5 => k_asm); (case kr => k_room); (case hx => k_mem); (case kU => k_updF); (case cn => k_ne); k_whole); intro v' h' tk' F' N'; (try dsimp only at N'); (try k_sweep)))
local macro_rules | `(tactic| walk_at "call ref") => `(tactic| ((with_reducible show wpAny _ _ (call (Value.ref 126) [Value.ref _, Value.int _ _]) _ _ _); (with_reducible rename Obj.IsDictOf _ _ _ => qd9); (with_reducible rename PyProof.V.FlatPairs _ _ _ => qf9); k_dflt (refine' lawAcked_K ?k1 ?k2 ?k3 ?k4 ?k5 ?kF ?kK ?kr ?hlo ?kU qd9 qf9 ?_; (case kF => exact rfl); (case kK => exact rfl); (case k1 => k_asm); (case k2 => k_asm); (case k3 => k_asm); (case k4 => k_asm); (case k5 => k_asm); (case kr => k_room); (case hlo => assumption); (case kU => k_updF); k_whole); intro o' kvs' h' tk' F' N' hd' hf'; (try dsimp only at N'); (try k_sweep); (clear qf9 qd9)))
local macro_rules | `(tactic| walk_at "call ref") => `(tactic| ((with_reducible show wpAny _ _ (call (Value.ref 133) [Value.ref _, Value.int _ _]) _ _ _); (with_reducible rename Obj.IsDictOf _ _ _ => qd9); (with_reducible rename PyProof.V.FlatPairs _ _ _ => qf9); k_dflt (refine' lawDuplicate_K ?k1 ?k2 ?k3 ?k4 ?k5 ?kF ?kK ?kr ?hlo ?kU qd9 qf9 ?_; (case kF => exact rfl); (case kK => exact rfl); (case k1 => k_asm); (case k2 => k_asm); (case k3 => k_asm); (case k4 => k_asm); (case k5 => k_asm); (case kr => k_room); (case hlo => assumption); (case kU => k_updF); k_whole); intro t' o' kvs' h' tk' F' N' hd' hf'; (try dsimp only at N'); (try k_sweep); (clear qf9 qd9)))
local macro_rules | `(tactic| walk_at "call ref") => `(tactic| ((with_reducible show wpAny _ _ (call (Value.ref 140) [Value.ref _, Value.int _ _]) _ _ _); (with_reducible rename Obj.IsDictOf _ _ _ => qd9); (with_reducible rename PyProof.V.FlatPairs _ _ _ => qf9); k_dflt (refine' lawLate_K ?k1 ?k2 ?k3 ?k4 ?k5 ?kF ?kK ?kr ?hlo ?kU qd9 qf9 ?_; (case kF => exact rfl); (case kK => exact rfl); (case k1 => k_asm); (case k2 => k_asm); (case k3 => k_asm); (case k4 => k_asm); (case k5 => k_asm); (case kr => k_room); (case hlo => assumption); (case kU => k_updF); k_whole); intro o' kvs' h' tk' F' N' hd' hf'; (try dsimp only at N'); (try k_sweep); (clear qf9 qd9)))
local macro_rules | `(tactic| walk_at "call ref") => `(tactic| ((with_reducible show wpAny _ _ (call (Value.ref 147) [Value.ref _, Value.ref _]) _ _ _); (with_reducible rename Obj.IsDictOf _ _ _ => qd9); (with_reducible rename PyProof.V.FlatPairs _ _ _ => qf9); k_dflt (refine' isLike_K ?k1 ?k2 ?k3 ?k4 ?k5 ?kF ?kK ?kr ?hx ?hdx ?ho ?hlo qd9 qf9 ?_; (case kF => exact rfl); (case kK => exact rfl); (case k1 => k_asm); (case k2 => k_asm); (case k3 => k_asm); (case k4 => k_asm); (case k5 => k_asm); (case kr => k_room); (case hx => k_mem); (case hdx => k_mem); (case ho => k_mem); (case hlo => assumption); k_whole); intro h' tk' F' N'; (try k_sweep)))
def tk8 (a b c d e f g h : Tok) : Nat → Tok
  | 0 => a
  | 1 => b
  | 2 => c
  | 3 => d
  | 4 => e
  | 5 => f
  | 6 => g
  | _ => h

abbrev st0 (M T S : Int) : St := ⟨M, T, S, T, 0, 0, false, false⟩

theorem isLike0_K {w : World} {A₀ : Around} {s : Shared} {base h₀ : Heap} {outer : List Env} {L : Addr} {m mg mb : Str → Option Value} {env : Env} {news : List (Addr × Obj)} {mean : ExcName → Option Value}
    {E : Value → Shared → Prop} {Q : Value → Shared → Prop} {d : Nat} {gs : Option (List Code)} {un : Nat} {x dx ow : Addr} {k0 k1 k2 k3 k4 k5 k6 k7 t0 t1 t2 t3 t4 t5 : Tok} {M T' S : Int} {o : Obj} {kvs : List (Str × Value)} {D : List (PyData × PyData)} {u : Obj → List (Addr × Obj)}
    (B : Below A₀ base outer h₀) (F : Fr h₀ L s.heap m) (X₀ : (hd.heap_39 w.params).In h₀) (N : News h₀ L s.heap news) (T : Top hd.view_39 (looseW hd.view_39 []) mean mg mb h₀)
    (hf : env.frame = some L) (hke : env.scope.kind = .function) (hr : d + 20 < recursionLimit)
    (hx : (x, instObj 94 dx) ∈ news)
    (U : UpdF dx (dictOf [ent w (Str.ofString "mss") k0 (.int M t0), ent w (Str.ofString "most") k1 (.int T' t1), ent w (Str.ofString "size") k2 (.int S t2), ent w (Str.ofString "threshold") k3 (.int T' t3),
      ent w (Str.ofString "gathered") k4 (.int 0 t4), ent w (Str.ofString "duplicates") k5 (.int 0 t5), ent w (Str.ofString "is_recovering") k6 (.bool false), ent w (Str.ofString "is_cautious") k7 (.bool false)] 8) news u)
    (ho : (ow, o) ∈ news)
    (hlo : (ow == sysModules) = false) (hdi : o.IsDictOf (PySem.strKind PySem.Challenge.rw_nu0122_01.row.prog w) kvs) (hfl : PyProof.V.FlatPairs PyData.str kvs D) (e : D = ownD (st0 M T' S))
    (h : ∀ k v h' tk, PyProof.V.FlatPairs PyData.str kvs (ownD (st0 M T' S)) → Fr h₀ L h' m → News h₀ L h' (u (dictOf (toldEs w k v (st0 M T' S)) 8)) → Q (.bool true) { s with heap := h', toks := tk }) :
    wpAny (model PySem.Challenge.rw_nu0122_01.row.prog w) ⟨none, d, some (env :: outer), gs, un⟩ (call (.ref 147) [.ref x, .ref ow]) Q E s := by
  subst e
  obtain ⟨pre, post, rfl, hu, _, _⟩ := U.split
  refine isLike_K (k := tk8 k0 k1 k2 k3 k4 k5 k6 k7) (v := tk6 t0 t1 t2 t3 t4 t5) (c := st0 M T' S) B F X₀ N T hf hke hr hx (List.mem_append_right _ (.head _)) ho hlo hdi hfl ?_
  intro h' tk F' N'
  refine h (tk8 k0 k1 k2 k3 k4 k5 k6 k7) (tk6 t0 t1 t2 t3 t4 t5) h' tk hfl F' ?_
  rw [hu]
  exact N'

theorem own_forget {prog : Program} {w : World} {o : Obj} {kvs : List (Str × Value)} {D : List (PyData × PyData)} (a : o.IsDictOf (PySem.strKind prog w) kvs) (b : PyProof.V.FlatPairs PyData.str kvs D) : ∃ kvs', o.IsDictOf (PySem.strKind prog w) kvs' ∧ PyProof.V.FlatPairs PyData.str kvs' D := ⟨kvs, a, b⟩

theorem wp_anytok {α : Type} {M : Model} {A : Around} {x : Sem α} {Q : α → Shared → Prop} {E : Value → Shared → Prop} {h : Heap} {g : Array GenState} {dr : Drawn} {X : Nat} {os : OsState} (k : ∀ tk, wpAny M A x Q E ⟨h, g, dr, tk, os⟩) : wpAny M A x Q E ⟨h, g, dr, X, os⟩ := k X

theorem star_dict (ks : List (Option PySem.Expr)) (vs : List PySem.Expr) (p : Pos) (rest : List PySem.Expr) (env : Env) : starEach (Expr.Dict ks vs p :: rest) env = (false, eval (Expr.Dict ks vs p) env) :: starEach rest env := by rfl

theorem inv0 {M t s : Int} (hM : M = 1 ∨ M = 7 ∨ M = 16 ∨ M = 536) (ht : t = 4 ∨ t = 10 ∨ t = 40) (hs : s = 1 ∨ s = 2 ∨ s = 4) : Inv M (M * t) (st0 M (M * t) (M * s)) := by
  rcases hM with rfl | rfl | rfl | rfl <;> rcases ht with rfl | rfl | rfl <;> rcases hs with rfl | rfl | rfl <;> (constructor <;> decide)

theorem own_off {own own2 : List (Addr × Obj)} {l x dx ow : Addr} (h1 : ∀ p ∈ own, p.1 ∉ [l, x, dx, ow]) (h2 : OwnOff own2 ([l, x, dx, ow] ++ own.map (·.1))) : ∀ p ∈ own ++ own2, p.1 ∉ [l, x, dx, ow] := by
  intro p hp
  rcases List.mem_append.mp hp with q | q
  · exact h1 p q
  · exact fun r => h2 p q _ (List.mem_append_left _ r) rfl

theorem below_off {own : List (Addr × Obj)} {l x dx ow l₀ : Addr} (h : ∀ p ∈ own, p.1 < l₀) (h1 : @LE.le Nat _ l₀ l) (h2 : @LE.le Nat _ l₀ x) (h3 : @LE.le Nat _ l₀ dx) (h4 : @LE.le Nat _ l₀ ow) : ∀ p ∈ own, p.1 ∉ [l, x, dx, ow] := by
  intro p hp r
  have hlt := h p hp
  simp only [List.mem_cons, List.not_mem_nil, or_false] at r
  rcases r with r | r | r | r <;> (rw [r] at hlt) <;> exact absurd hlt (Nat.not_lt.mpr (by assumption))

theorem ne_of_contains {l : List Str} {y : Str} (h : l.contains y = false) : ∀ s ∈ l, y ≠ s := by
  intro s hs e
  subst e
  exact absurd (List.contains_iff_mem.mpr hs) (by rw [h]; decide)
end
section
local macro_rules | `(tactic| k_room) => `(tactic| ((try simp only [depth_under_make, depth_under_kw, depth_in1, depth_deeper, depth_caller]); first | decide | omega))
local macro_rules | `(tactic| walk_at "call ref") => `(tactic| ((with_reducible show wpAny _ _ (call (Value.ref 112) [Value.ref _, Value.int _ _]) _ _ _); k_dflt (refine' take_K ?k1 ?k2 ?k3 ?k4 ?k5 ?kF ?kK ?kr ?kU ?c1 ?c2 ?c3 ?c4 ?c5 ?_; (case kF => exact rfl); (case kK => exact rfl); (case k1 => k_asm); (case k2 => k_asm); (case k3 => k_asm); (case k4 => k_asm); (case k5 => k_asm); (case kr => k_room); (case kU => k_updF); (case c1 => assumption); (case c2 => assumption); (case c3 => assumption); (case c4 => omega); (case c5 => omega); k_whole); intro r' a' b' tr' ta' tb' h' tk' g1' g2' g3' g4' g5' F' N'; (try dsimp only at N'); (try k_sweep)))
local macro_rules | `(tactic| walk_at "call ref") => `(tactic| ((with_reducible show wpAny _ _ (call (Value.ref 119) [Value.ref _, Value.ref _]) _ _ _); k_dflt (refine' one_K ?k1 ?k2 ?k3 ?k4 ?k5 ?kF ?kK ?kr ?kU ?c1 ?c2 ?c3 ?cq ?ci ?c4 ?c5 ?cn ?_; (case kF => exact rfl); (case kK => exact rfl); (case k1 => k_asm); (case k2 => k_asm); (case k3 => k_asm); (case k4 => k_asm); (case k5 => k_asm); (case kr => k_room); (case kU => k_updF); (case c1 => assumption); (case c2 => assumption); (case c3 => assumption); (case cq => k_mem); (case ci => repeat constructor); (case c4 => exact Nat.succ_pos _); (case c5 => exact Nat.le_of_ble_eq_true rfl); (case cn => k_ne); k_whole); intro r' a' b' tr' ta' tb' h' tk' g1' g3' g4' g5' F' N'; (try simp only [List.mem_cons, List.not_mem_nil, or_false] at g1'); (try dsimp only at N'); (try k_sweep)))
local macro_rules | `(tactic| walk_at "call ref") => `(tactic| ((with_reducible show wpAny _ _ (call (Value.ref 105) [Value.ref _, Value.int _ _]) _ _ _); k_dflt (refine' pool_K ?k1 ?k2 ?k3 ?k4 ?k5 ?kF ?kK ?kr ?c1 ?c2 ?c3 ?c4 ?c5 ?_; (case kF => exact rfl); (case kK => exact rfl); (case k1 => k_asm); (case k2 => k_asm); (case k3 => k_asm); (case k4 => k_asm); (case k5 => k_asm); (case kr => k_room); (case c1 => assumption); (case c2 => assumption); (case c3 => assumption); (case c4 => omega); (case c5 => omega); k_whole); intro l' a' b' ta' tb' h' tk' g1' g2' g3' F' N' l1; (try dsimp only at N'); (try k_lt l1); (try k_sweep)))
local macro_rules | `(tactic| walk_at "call ref") => `(tactic| ((with_reducible show wpAny _ _ (call (Value.ref 56) [Value.ref _, Value.int _ _]) _ _ _); k_dflt (refine' acked_K ?k1 ?k2 ?k3 ?k4 ?k5 ?kF ?kK ?kr ?hx ?kU ?cn ?_; (case kF => exact rfl); (case kK => exact rfl); (case k1 => k_asm); (case k2 => k_asm); (case k3 => k_asm); (case k4 => k_asm); (case k5 => k_asm); (case kr => k_room); (case hx => k_mem); (case kU => k_updF); (case cn => k_ne); k_whole); intro v' h' tk' F' N'; (try dsimp only at N'); (try k_sweep)))
local macro_rules | `(tactic| walk_at "call ref") => `(tactic| ((with_reducible show wpAny _ _ (call (Value.ref 77) [Value.ref _, Value.int _ _]) _ _ _); k_dflt (refine' duplicate_K ?k1 ?k2 ?k3 ?k4 ?k5 ?kF ?kK ?kr ?hx ?kU ?cn ?_; (case kF => exact rfl); (case kK => exact rfl); (case k1 => k_asm); (case k2 => k_asm); (case k3 => k_asm); (case k4 => k_asm); (case k5 => k_asm); (case kr => k_room); (case hx => k_mem); (case kU => k_updF); (case cn => k_ne); k_whole); intro t' v' h' tk' F' N'; (try dsimp only at N'); (try k_sweep)))
local macro_rules | `(tactic| walk_at "call ref") => `(tactic| ((with_reducible show wpAny _ _ (call (Value.ref 91) [Value.ref _, Value.int _ _]) _ _ _); k_dflt (refine' late_K ?k1 ?k2 ?k3 ?k4 ?k5 ?kF ?kK ?kr ?hx ?kU ?cn ?_; (case kF => exact rfl); (case kK => exact rfl); (case k1 => k_asm); (case k2 => k_asm); (case k3 => k_asm); (case k4 => k_asm); (case k5 => k_asm); (case kr => k_room); (case hx => k_mem); (case kU => k_updF); (case cn => k_ne); k_whole); intro v' h' tk' F' N'; (try dsimp only at N'); (try k_sweep)))
local macro_rules | `(tactic| walk_at "call ref") => `(tactic| ((with_reducible show wpAny _ _ (call (Value.ref 126) [Value.ref _, Value.int _ _]) _ _ _); (with_reducible rename Obj.IsDictOf _ _ _ => qd9); (with_reducible rename PyProof.V.FlatPairs _ _ _ => qf9); k_dflt (refine' lawAcked_K ?k1 ?k2 ?k3 ?k4 ?k5 ?kF ?kK ?kr ?hlo ?kU qd9 qf9 ?_; (case kF => exact rfl); (case kK => exact rfl); (case k1 => k_asm); (case k2 => k_asm); (case k3 => k_asm); (case k4 => k_asm); (case k5 => k_asm); (case kr => k_room); (case hlo => assumption); (case kU => k_updF); k_whole); intro o' kvs' h' tk' F' N' hd' hf'; (try dsimp only at N'); (try k_sweep); (clear qf9 qd9)))
local macro_rules | `(tactic| walk_at "call ref") => `(tactic| ((with_reducible show wpAny _ _ (call (Value.ref 133) [Value.ref _, Value.int _ _]) _ _ _); (with_reducible rename Obj.IsDictOf _ _ _ => qd9); (with_reducible rename PyProof.V.FlatPairs _ _ _ => qf9); k_dflt (refine' lawDuplicate_K ?k1 ?k2 ?k3 ?k4 ?k5 ?kF ?kK ?kr ?hlo ?kU qd9 qf9 ?_; (case kF => exact rfl); (case kK => exact rfl); (case k1 => k_asm); (case k2 => k_asm); (case k3 => k_asm); (case k4 => k_asm); (case k5 => k_asm); (case kr => k_room); (case hlo => assumption); (case kU => k_updF); k_whole); intro t' o' kvs' h' tk' F' N' hd' hf'; (try dsimp only at N'); (try k_sweep); (clear qf9 qd9)))
local macro_rules | `(tactic| walk_at "call ref") => `(tactic| ((with_reducible show wpAny _ _ (call (Value.ref 140) [Value.ref _, Value.int _ _]) _ _ _); (with_reducible rename Obj.IsDictOf _ _ _ => qd9); (with_reducible rename PyProof.V.FlatPairs _ _ _ => qf9); k_dflt (refine' lawLate_K ?k1 ?k2 ?k3 ?k4 ?k5 ?kF ?kK ?kr ?hlo ?kU qd9 qf9 ?_; (case kF => exact rfl); (case kK => exact rfl); (case k1 => k_asm); (case k2 => k_asm); (case k3 => k_asm); (case k4 => k_asm); (case k5 => k_asm); (case kr => k_room); (case hlo => assumption); (case kU => k_updF); k_whole); intro o' kvs' h' tk' F' N' hd' hf'; (try dsimp only at N'); (try k_sweep); (clear qf9 qd9)))
local macro_rules | `(tactic| walk_at "call ref") => `(tactic| ((with_reducible show wpAny _ _ (call (Value.ref 147) [Value.ref _, Value.ref _]) _ _ _); (with_reducible rename Obj.IsDictOf _ _ _ => qd9); (with_reducible rename PyProof.V.FlatPairs _ _ _ => qf9); k_dflt (refine' isLike_K ?k1 ?k2 ?k3 ?k4 ?k5 ?kF ?kK ?kr ?hx ?hdx ?ho ?hlo qd9 qf9 ?_; (case kF => exact rfl); (case kK => exact rfl); (case k1 => k_asm); (case k2 => k_asm); (case k3 => k_asm); (case k4 => k_asm); (case k5 => k_asm); (case kr => k_room); (case hx => k_mem); (case hdx => k_mem); (case ho => k_mem); (case hlo => assumption); k_whole); intro h' tk' F' N'; (try k_sweep)))
local macro_rules | `(tactic| walk_at "call ref") => `(tactic| ((with_reducible show wpAny _ _ (call (Value.ref 147) [Value.ref _, Value.ref _]) _ _ _); (with_reducible rename Obj.IsDictOf _ _ _ => qd9); (with_reducible rename PyProof.V.FlatPairs _ _ _ => qf9); k_dflt (refine' isLike0_K ?k1 ?k2 ?k3 ?k4 ?k5 ?kF ?kK ?kr ?hx ?hU ?ho ?hlo qd9 qf9 ?he ?_; (case kF => exact rfl); (case kK => exact rfl); (case k1 => k_asm); (case k2 => k_asm); (case k3 => k_asm); (case k4 => k_asm); (case k5 => k_asm); (case kr => k_room); (case hx => k_mem); (case hU => k_updF); (case ho => k_mem); (case hlo => assumption); (case he => with_unfolding_all rfl); k_whole); intro k' v' h' tk' hf' F' N'; (try dsimp only at N'); (try k_sweep); (clear qf9)))
local macro_rules | `(tactic| walk_at "call ref") => `(tactic| ((with_reducible show wpAny _ _ (call (Value.ref 154) [Value.ref _, Value.ref _, Value.ref _]) _ _ _); (with_reducible rename Obj.IsDictOf _ _ _ => qd9); (with_reducible rename PyProof.V.FlatPairs _ _ _ => qf9); (with_reducible rename Inv _ _ _ => qi9); k_dflt (refine' led_K (z := ⟨_, _, _, _, _, _, _, _⟩) ?k1 ?k2 ?k3 ?k4 ?k5 ?kF ?kK ?kr ⟨?a0, ?b0, ?b1, qi9, qd9, qf9⟩ ?hlo ?n1 ?n2 ?n3 ?n4 ?n5 ?n6 ?ho ?_; (case kF => exact rfl); (case kK => exact rfl); (case k1 => k_asm); (case k2 => k_asm); (case k3 => k_asm); (case k4 => k_asm); (case k5 => k_asm); (case kr => k_room); (case a0 => assumption); (case b0 => assumption); (case b1 => assumption); (case hlo => assumption); (case n1 => k_ne); (case n2 => k_ne); (case n3 => k_ne); (case n4 => k_ne); (case n5 => k_ne); (case n6 => k_ne); (case ho => exact own_off (below_off (by assumption) (by omega) (by omega) (by omega) (by omega)) (by assumption)); k_whole); intro z' h' tk' hz' F' N'; (try k_sweep); (clear qi9 qd9 qf9); obtain ⟨a', b', ta', tb', v', c', o', kvs'⟩ := z'; obtain ⟨a0', b0', b1', inv', hd', hf'⟩ := hz'; have inv9 := inv'; obtain ⟨i1, i2, i3, i4, i5, i6, i7⟩ := inv9; (dsimp only [ledOf] at a0' b0' b1' inv' hd' hf' N' i1 i2 i3 i4 i5 i6 i7)))
local macro_rules | `(tactic| walk_at "execs cons Expr") => `(tactic| (k_here; (with_reducible rename Obj.IsDictOf _ _ _ => qd9); (with_reducible rename PyProof.V.FlatPairs _ _ _ => qf9); have q9 := own_forget qd9 qf9; (clear qd9 qf9); obtain ⟨kvs9, qd9, qf9⟩ := q9; (with_reducible show wpAny _ _ _ _ _ _); (with_reducible refine wp_anytok ?_); intro tk9; (with_reducible refine wpAny_execs_cons ?_); (try dsimp only)))
local macro_rules | `(tactic| walk_at "callWith builtin:dict.update") => `(tactic| ((with_reducible dsimp only); refine' callWith_method1 ?_ (star_dict _ _ _ _ _) rfl))
set_option maxHeartbeats 8000000 in
theorem t1 : PySem.Challenge.rw_nu0122_01.Holds := hd (by
            k_go0
            (all_goals try k_fold)
            (repeat' ((fail_if_success (with_reducible show wpAny _ _ (pyIter _) _ _ _)); first | (k_unfold; (try dsimp only)) | walk1 | (dsimp only; walk1) | (leave1; (try dsimp only)) | fail "no step"))
            rename Fr _ _ _ _ => lF'
            rename News _ _ _ _ => lN'
            rename IsRange _ _ _ _ _ _ _ _ => rgX
            have mk9 := kstMark
            refine' kst_range (σ := Unit) (fun _ => []) (fun _ => []) (fun _ => True) ["source", "mss", "most", "own", "told", "turn"] (fun _ _ => True) () (by rfl) rgX ?hs (rangeSize_nat _ _) lF' ?kn trivial ?kk trivial ?_ ?_
            case hs => exact small_one (by omega) (by omega) (by omega) (by omega)
            case kn => exact lN'
            case kk => intro p hp; cases hp
            rotate_left
            · intro c u h tk _ _ F' N'
              clear lF' lN'
              (all_goals try k_fold)
              (repeat' ((fail_if_success (with_reducible show wpAny _ _ (pyIter _) _ _ _)); first | (k_unfold; (try dsimp only)) | (k_end; wrow_close) | walk1 | (dsimp only; walk1) | (leave1; (try dsimp only)) | fail "no step"))
            clear lF' lN' rgX
            intro c pre kk t u h tk own hk hlt hoff _ _ F' N'
            (all_goals try k_fold)
            (repeat' ((fail_if_success (with_reducible show wpAny _ _ (pyIter _) _ _ _)); first | (k_unfold; (try dsimp only)) | walk1 | (dsimp only; walk1) | (leave1; (try dsimp only)) | fail "no step"))
            rename Fr _ _ _ _ => lF'
            rename News _ _ _ _ => lN'
            rename IsRange _ _ _ _ _ _ _ _ => rgX
            rename World => w9
            rename Obj => o9
            have inv9 := inv0 (by assumption) (by assumption) (by assumption)
            rename List (Str × Value) => kvs9
            rename Obj.IsDictOf _ o9 kvs9 => qd9
            rename PyProof.V.FlatPairs _ _ _ => qf9
            refine' kst_range (σ := Ls) (ledOf _ _ 0 _ _ _ _ own) (fun _ => []) (LsOk w9 _ _) [] (fun _ _ => True) ⟨_, _, _, _, _, _, o9, kvs9⟩ rfl rgX ?hs (rangeSize_nat _ _) lF' ?kn ⟨?a0, ?b0, ?b1, inv9, qd9, qf9⟩ ?kk trivial ?_ ?_
            case hs => exact small_one (by omega) (by omega) (by omega) (by omega)
            case kn =>
              refine kst_newsOf lN' ?_
              unfold ledOf
              refine List.forall_mem_cons.mpr ⟨by k_dflt k_mem, List.forall_mem_cons.mpr ⟨by k_dflt k_mem, List.forall_mem_cons.mpr ⟨by k_dflt k_mem, List.forall_mem_cons.mpr ⟨by k_dflt k_mem, ?_⟩⟩⟩⟩
              intro p hp
              repeat (first | exact hp | refine List.Mem.tail _ ?_)
            case a0 => assumption
            case b0 => assumption
            case b1 => assumption
            case kk => exact List.forall_mem_nil _
            · intro z pre kk t u h' tk own2 hkk hlt2 hoff2 hz _ F' N'
              clear lF' lN' rgX qd9 qf9 inv9
              obtain ⟨a, b, ta, tb, v, c', o', kvs'⟩ := z
              obtain ⟨a0, b0, b1, inv', hdi', hfl'⟩ := hz
              dsimp only [ledOf, List.cons_append] at a0 b0 b1 inv' hdi' hfl' N'
              (all_goals try k_fold)
              (repeat' ((fail_if_success (with_reducible show wpAny _ _ (pyIter _) _ _ _)); (fail_if_success (with_reducible show InvEndN _ _ _ _ _ _ _)); first | (k_unfold; (try dsimp only)) | walk1 | (dsimp only; walk1) | (leave1; (try dsimp only)) | fail "no step"))
              rename Fr _ _ _ _ => eF'
              rename News _ _ _ _ => eN'
              refine' kst_end ⟨_, _, _, _, _, _, _, _⟩ eF' eN' ?hn ?ho rfl ?hf (List.forall_mem_nil _) ?hr trivial
              case hn =>
                unfold ledOf
                refine List.forall_mem_cons.mpr ⟨by k_dflt k_mem, List.forall_mem_cons.mpr ⟨by k_dflt k_mem, List.forall_mem_cons.mpr ⟨by k_dflt k_mem, List.forall_mem_cons.mpr ⟨by k_dflt k_mem, ?_⟩⟩⟩⟩
                intro p hp
                exact .tail _ (.tail _ (.tail _ (.tail _ (List.mem_append_left _ hp))))
              case ho =>
                intro p hp
                exact .tail _ (.tail _ (.tail _ (.tail _ (List.mem_append_right _ hp))))
              case hf => exact ⟨by assumption, by assumption, by assumption, by assumption, by assumption, by assumption⟩
              case hr =>
                intro y h1 h2 h3
                refine (if_neg h1).trans ?_
                show (if ([] : List Str).contains y = true then u y else _) = _
                exact if_neg Bool.false_ne_true
            · intro z u h' tk hz _ F' N'
              clear lF' lN' rgX qd9 qf9 inv9
              obtain ⟨a, b, ta, tb, v, c', o', kvs'⟩ := z
              obtain ⟨a0, b0, b1, inv', hdi', hfl'⟩ := hz
              dsimp only [ledOf] at a0 b0 b1 inv' hdi' hfl' N'
              (all_goals try k_fold)
              (repeat' ((fail_if_success (with_reducible show wpAny _ _ (pyIter _) _ _ _)); (fail_if_success (with_reducible show InvEndN _ _ _ _ _ _ _)); first | (k_unfold; (try dsimp only)) | walk1 | (dsimp only; walk1) | (leave1; (try dsimp only)) | fail "no step"))
              rename Fr _ _ _ _ => eF'
              rename News _ _ _ _ => eN'
              refine' kst_end () eF' eN' (List.forall_mem_nil _) ?ho rfl trivial (List.forall_mem_nil _) ?hr trivial
              case ho =>
                intro p hp
                exact .tail _ (.tail _ (.tail _ (.tail _ hp)))
              case hr =>
                intro y h1 h2 h3
                have hne := ne_of_contains h3
                refine (if_neg (hne (Str.ofString "turn") (by simp))).trans ?_
                show (if ([] : List Str).contains y = true then u y else _) = _
                refine (if_neg Bool.false_ne_true).trans ?_
                refine (if_neg (hne (Str.ofString "told") (by simp))).trans ?_
                refine (if_neg (hne (Str.ofString "own") (by simp))).trans ?_
                refine (if_neg (hne (Str.ofString "most") (by simp))).trans ?_
                refine (if_neg (hne (Str.ofString "mss") (by simp))).trans ?_
                refine (if_neg (hne (Str.ofString "source") (by simp))).trans ?_
                refine (if_neg h1).trans ?_
                exact if_neg (by rw [h3]; exact Bool.false_ne_true)
              done)
end
end Mine

set_option maxRecDepth 100000 in
set_option maxHeartbeats 8000000 in
theorem PySem.Challenge.cw_nu0122_01_holds : PySem.Challenge.rw_nu0122_01.Holds :=
  Mine.t1
#print axioms PySem.Challenge.cw_nu0122_01_holds
