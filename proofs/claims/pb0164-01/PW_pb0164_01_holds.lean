import PyProof.Rows.All
import Wide.All
import OpenK.AllK
import Wide.FinOn
import Lean
import PySem.Challenge.RW_pb0164_01
set_option Elab.async false
set_option compiler.extract_closed false
namespace Mine
section
open PySem PySem.W PyProof.Rows
set_option maxRecDepth 100000 in
set_option maxHeartbeats 8000000 in
open_top hd for PySem.Challenge.rw_pb0164_01
set_option maxRecDepth 100000 in
theorem fill : (PySem.Challenge.rw_pb0164_01 = PySem.Challenge.rw_pb0164_01) → (hd.heap_39 = hd.heap_39) → True := by
  k_fill
  intro _ _; trivial
end
open PySem PySem.W PyProof.Rows PySem.Spec PySem.Calls
set_option maxRecDepth 100000
theorem fm {x k : Int} (h : 0 < k) : 0 ≤ x.fmod k ∧ x.fmod k < k := by
  rw [Int.fmod_eq_emod_of_nonneg _ (Int.le_of_lt h)]
  exact ⟨Int.emod_nonneg _ (by omega), Int.emod_lt_of_pos _ h⟩
theorem news_sub {h₀ h : Heap} {L : Addr} {a b : List (Addr × Obj)} (N : News h₀ L h a) (hs : ∀ p ∈ b, p ∈ a) : News h₀ L h b := fun p hp => N p (hs p hp)

section
variable {prog : Program} {w : World} {A : Around} {E : Value → Shared → Prop} {s : Shared} {h₀ : Heap} {L : Addr} {m : Str → Option Value} {news : List (Addr × Obj)}
theorem len_lst {l : Addr} {vs : List Value} {n : Nat} {Q : Value → Shared → Prop} (N : News h₀ L s.heap news) (hm : (l, W.listOf vs.toArray n) ∈ news) (hb : vs.length ≤ 1000)
    (h : Q (.int vs.length (s.toks + 1)) { s with toks := s.toks + 1 + 1 }) : wpAny (model prog w) A (call (.builtin "len") [.ref l]) Q E s :=
  len_list (News.isList N hm) (by simp; omega) (by simpa using h)
theorem item_ints {value slice : PySem.Expr} {l : Addr} {vs : List Value} {ns : List Int} {n : Nat} {k : Int} {u : Tok} {Q : Value → Shared → Prop} (N : News h₀ L s.heap news) (hm : (l, W.listOf vs.toArray n) ∈ news) (hi : IntsAre vs ns)
    (h0 : 0 ≤ k) (hk : k < (vs.length : Int)) (hb : vs.length ≤ 1000) (h : ∀ x t, Q (.int x t) s)
    (hs : subscripted slice false (.ref l) (.int k u) = operate [.ref l, .int k u] (getItem (.ref l) (.int k u)) := by with_unfolding_all rfl) (hg : ∀ r, letTemporaryGo value (.ref l) r = pure () := by intro _; with_unfolding_all rfl) :
    wpAny (model prog w) A (subscriptTail value slice (.ref l) (.int k u)) Q E s := by
  have hlt : k.toNat < ns.length := by have := hi.length; omega
  obtain ⟨t, e⟩ := hi.get k.toNat ns[k.toNat] (by simp [hlt])
  exact item_list (News.isList N hm) h0 (by omega) (by simpa using e) (h _ _) hs hg
end

set_option hygiene false in
local macro_rules | `(tactic| k_all) => `(tactic| assumption)
section
set_option hygiene false in
local macro_rules | `(tactic| walk_at "call builtin:len") => `(tactic| (k_here; (with_reducible show wpAny _ _ (call (Value.builtin "len") [Value.ref _]) _ _ _); k_dflt (refine' len_lst (by k_asm) (by first | assumption | k_mem | exact List.Mem.tail _ (by assumption)) (by assumption) ?_)))
set_option hygiene false in
local macro_rules | `(tactic| walk_at "subscriptTail") => `(tactic| (k_here; (with_reducible show wpAny _ _ (subscriptTail _ _ (Value.ref _) (Value.int _ _)) _ _ _); k_dflt (refine' item_ints (by k_asm) (by first | assumption | k_mem | exact List.Mem.tail _ (by assumption)) (by assumption) (by omega) (by omega) (by assumption) ?_); intro x'Z t'Z))

set_option maxHeartbeats 4000000 in
theorem draw_spec0 {prog : Program} {w : World} {p : Program} {loose : List Str} {mean : ExcName → Option Value} {mg mb : Str → Option Value}
    {dp un : Nat} {gd : Option (List Code)} {cn : Str} {cs : Scope} {a : Addr} {ccd : Value} {cl : List (Str × Addr)} {outer : List Env} {A₀ : Around} {base h₀ : Heap} {L : Addr} {m : Str → Option Value} {rest : List (Addr × Obj)} {s : Shared}
    {Q E : Value → Shared → Prop} {pa ca : Addr} {g st pl : Int} {tg ts tp : Tok} {n nc : Nat} {vs : List Value} {ns : List Int} {k : Int} {tk : Tok}
    (B : Below A₀ base outer h₀) (F : Fr h₀ L s.heap m) (X : (hd.heap_39 w.params).In h₀)
    (N : News h₀ L s.heap ((pa, W.listOf #[.ref ca, .int g tg, .int st ts, .int pl tp] n) :: rest))
    (hrest : ∀ q ∈ rest, q.1 ≠ pa) (hc : (ca, W.listOf vs.toArray nc) ∈ rest) (hi : IntsAre vs ns) (hb : vs.length ≤ 1000) (hk : 0 < k) (hk2 : k ≤ 100) (hpl : 0 ≤ pl) (hpl2 : pl ≤ 100000) (hst : 0 ≤ st) (hst2 : st < 2147483647)
    (T : Top p loose mean mg mb h₀) (hcs : cs.kind = .function) (hdp : dp + 5 < recursionLimit)
    (ret : ∀ r tr g' st' pl' tg' ts' tp' h' tk', 0 ≤ r → r < k → pl' = pl + 1 → 0 ≤ st' → st' < 2147483647 → Fr h₀ L h' m → News h₀ L h' ((pa, W.listOf #[.ref ca, .int g' tg', .int st' ts', .int pl' tp'] n) :: rest) → Q (.int r tr) { s with heap := h', toks := tk' }) :
    wpAny (model prog w) (ktrTop dp un gd cn cs L a ccd cl outer) (call (.ref 180) [.ref pa, .int k tk]) Q E s := by
  refine wpAny_call ?_
  k_dflt ktr_enter
  k_steps
  all_goals (refine' ret _ _ _ _ _ _ _ _ _ _ ?a ?b ?c ?d ?e ?F ?N; (case N => assumption); (case F => assumption); (case a => exact (fm hk).1); (case b => exact (fm hk).2); (case c => first | rfl | omega); (case d => first | assumption | exact (fm (by decide)).1); (case e => first | assumption | exact (fm (by decide)).2))

theorem draw_spec {prog : Program} {w : World} {p : Program} {loose : List Str} {mean : ExcName → Option Value} {mg mb : Str → Option Value}
    {dp un : Nat} {gd : Option (List Code)} {cn : Str} {cs : Scope} {a : Addr} {ccd : Value} {cl : List (Str × Addr)} {outer : List Env} {A₀ : Around} {base h₀ : Heap} {L : Addr} {m : Str → Option Value} {news : List (Addr × Obj)} {u : Obj → List (Addr × Obj)} {s : Shared}
    {Q E : Value → Shared → Prop} {pa ca : Addr} {g st pl : Int} {tg ts tp : Tok} {n nc : Nat} {vs : List Value} {ns : List Int} {k : Int} {tk : Tok}
    (B : Below A₀ base outer h₀) (F : Fr h₀ L s.heap m) (X : (hd.heap_39 w.params).In h₀)
    (N : News h₀ L s.heap news) (U : UpdF pa (W.listOf #[.ref ca, .int g tg, .int st ts, .int pl tp] n) news u)
    (hc : (ca, W.listOf vs.toArray nc) ∈ news) (hca : ca ≠ pa) (hi : IntsAre vs ns) (hb : vs.length ≤ 1000) (hk : 0 < k) (hk2 : k ≤ 100) (hpl : 0 ≤ pl) (hpl2 : pl ≤ 100000) (hst : 0 ≤ st) (hst2 : st < 2147483647)
    (T : Top p loose mean mg mb h₀) (hcs : cs.kind = .function) (hdp : dp + 5 < recursionLimit)
    (ret : ∀ r tr g' st' tg' ts' tp' h' tk', 0 ≤ r → r < k → 0 ≤ st' → st' < 2147483647 → Fr h₀ L h' m → News h₀ L h' (u (W.listOf #[.ref ca, .int g' tg', .int st' ts', .int (pl + 1) tp'] n)) → Q (.int r tr) { s with heap := h', toks := tk' }) :
    wpAny (model prog w) (ktrTop dp un gd cn cs L a ccd cl outer) (call (.ref 180) [.ref pa, .int k tk]) Q E s := by
  obtain ⟨pre, post, rfl, hu, h1, h2⟩ := U.split
  have hc' : (ca, W.listOf vs.toArray nc) ∈ pre ++ post := by
    rcases List.mem_append.mp hc with h | h
    · exact List.mem_append_left _ h
    · rcases List.mem_cons.mp h with h | h
      · exact absurd (congrArg Prod.fst h) hca
      · exact List.mem_append_right _ h
  refine draw_spec0 (rest := pre ++ post) (g := g) (st := st) (pl := pl) (tg := tg) (ts := ts) (tp := tp) (n := n) B F X (news_sub N ?_) ?_ hc' hi hb hk hk2 hpl hpl2 hst hst2 T hcs hdp ?_
  · intro q hq
    rcases List.mem_cons.mp hq with rfl | hq
    · exact List.mem_append_right _ (.head _)
    · rcases List.mem_append.mp hq with h | h
      · exact List.mem_append_left _ h
      · exact List.mem_append_right _ (.tail _ h)
  · intro q hq
    rcases List.mem_append.mp hq with h | h
    · exact h1 q h
    · exact h2 q h
  · intro r tr g' st' pl' tg' ts' tp' h' tk' a1 a2 a3 a4 a5 F' N'
    subst a3
    refine ret r tr g' st' tg' ts' tp' h' tk' a1 a2 a4 a5 F' ?_
    rw [hu]
    refine news_sub N' ?_
    intro q hq
    rcases List.mem_append.mp hq with h | h
    · exact .tail _ (List.mem_append_left _ h)
    · rcases List.mem_cons.mp h with rfl | h
      · exact .head _
      · exact .tail _ (List.mem_append_right _ h)
end
abbrev pr : Program := PySem.Challenge.pw_pb0164_01

/-- what a Want says -/
structure WD where
  v : Int
  m : Int
  s : Bool
  p : Bool
def WD.own (x : WD) : Bool := x.s || (x.p && decide (0 < x.m))

/-- a Want's own dict -/
abbrev wantO (w : World) (x : WD) (t : Nat → Tok) (n : Nat) : Obj :=
  dictOf [⟨PyData.keyHash w.params (Str.ofString "value"), .str (Str.ofString "value") (t 0), .int x.v (t 1)⟩,
          ⟨PyData.keyHash w.params (Str.ofString "most"), .str (Str.ofString "most") (t 2), .int x.m (t 3)⟩,
          ⟨PyData.keyHash w.params (Str.ofString "is_set"), .str (Str.ofString "is_set") (t 4), .bool x.s⟩,
          ⟨PyData.keyHash w.params (Str.ofString "is_part"), .str (Str.ofString "is_part") (t 5), .bool x.p⟩] n

theorem own_ret {h₀ : Heap} {L : Addr} {m : Str → Option Value} {news : List (Addr × Obj)} {s : Shared} {Q : Value → Shared → Prop} {b c : Bool} (ret : ∀ h' tk', Fr h₀ L h' m → News h₀ L h' news → Q (.bool c) { s with heap := h', toks := tk' })
    (e : b = c) {h' : Heap} {tk' : Nat} (F : Fr h₀ L h' m) (N : News h₀ L h' news) : Q (.bool b) { s with heap := h', toks := tk' } := e ▸ ret h' tk' F N
set_option maxHeartbeats 4000000 in
theorem own_spec {prog : Program} {w : World} {p : Program} {loose : List Str} {mean : ExcName → Option Value} {mg mb : Str → Option Value}
    {dp un : Nat} {gd : Option (List Code)} {cn : Str} {cs : Scope} {a : Addr} {ccd : Value} {cl : List (Str × Addr)} {outer : List Env} {A₀ : Around} {base h₀ : Heap} {L : Addr} {m : Str → Option Value} {news : List (Addr × Obj)} {s : Shared}
    {Q E : Value → Shared → Prop} {wa wd : Addr} {x : WD} {t : Nat → Tok} {n : Nat}
    (B : Below A₀ base outer h₀) (F : Fr h₀ L s.heap m) (X : (hd.heap_39 w.params).In h₀)
    (N : News h₀ L s.heap news) (h1 : (wa, instObj 136 wd) ∈ news) (h2 : (wd, wantO w x t n) ∈ news)
    (T : Top p loose mean mg mb h₀) (hcs : cs.kind = .function) (hdp : dp + 5 < recursionLimit)
    (ret : ∀ h' tk', Fr h₀ L h' m → News h₀ L h' news → Q (.bool x.own) { s with heap := h', toks := tk' }) :
    wpAny (model prog w) (ktrTop dp un gd cn cs L a ccd cl outer) (call (.ref 133) [.ref wa]) Q E s := by
  refine wpAny_call ?_
  k_dflt ktr_enter
  k_steps
  all_goals (refine own_ret ret ?_ (by assumption) (by assumption); simp [WD.own, *])
section
variable {prog : Program} {w : World} {A : Around} {E : Value → Shared → Prop} {s : Shared} {env : Env} {h₀ : Heap} {x : Str} {body : List Stmt} {Q : Flow → Shared → Prop}

/-- what a turn owes -/
def TurnE (h₀ : Heap) (L I : Addr) (io : Obj) (J : (Str → Option Value) → List (Addr × Obj) → Prop) (s₁ s₂ : Shared) : Prop :=
  ∃ h' tk m' news', s₂ = { s₁ with heap := h', toks := tk } ∧ Fr h₀ L h' m' ∧ News h₀ L h' news' ∧ (I, io) ∈ news' ∧ ∃ nx, (∀ p ∈ nx, p ∈ news') ∧ (∀ p ∈ nx, p.1 ≠ I) ∧ J m' nx
def TurnP (h₀ : Heap) (L I : Addr) (io : Obj) (J : (Str → Option Value) → List (Addr × Obj) → Prop) (s₁ : Shared) (Q : Flow → Shared → Prop) (f : Flow) (s₂ : Shared) : Prop :=
  match f with
  | .ret v => Q (.ret v) s₂
  | .brk => Q .next s₂
  | _ => TurnE h₀ L I io J s₁ s₂

theorem loop_my {I : Addr} {fs : List Addr} {ob : Addr → Obj} {n : Nat} {P : Nat → Value → Prop} {St : Nat → Heap → Prop} {m₀ : Str → Option Value} {news : List (Addr × Obj)}
    (J : Nat → (Str → Option Value) → List (Addr × Obj) → Prop)
    (W : Walks prog w A I (I :: fs) [I] n P St) (hI0 : h₀.get? I = none) (hIn : ∀ p ∈ news, p.1 ≠ I) (hLI : env.locals ≠ I) (hLf : env.locals ∉ fs) (hob : ∀ i h, St i h → ∃ o, h.get? I = some o)
    (hst : St 0 s.heap) (F : Fr h₀ env.locals s.heap m₀) (N : News h₀ env.locals s.heap news) (hJ0 : J 0 m₀ news) (hJf : ∀ i m nx, J i m nx → ∀ b ∈ fs, (∃ o, h₀.get? b = some o) ∨ (b, ob b) ∈ nx)
    (turn : ∀ i v m₁ news₁ h tk io, i < n → P i v → J i m₁ news₁ → (∀ p ∈ news₁, p.1 ≠ I) → Fr h₀ env.locals h (fun y => if y = x then some v else m₁ y) → News h₀ env.locals h ((I, io) :: news₁) →
      wpAny (model prog w) A (execs body env) (TurnP h₀ env.locals I io (J (i + 1)) { s with heap := h, toks := tk } Q) E { s with heap := h, toks := tk })
    (done : ∀ m₁ news₁ h tk, J n m₁ news₁ → Fr h₀ env.locals h m₁ → News h₀ env.locals h news₁ → Q .next { s with heap := h, toks := tk }) :
    LoopAtV prog w A h₀ env x body Q E (.ref I) s := by
  refine ⟨I, I :: fs, [I], n, P, St, m₀, news, J, rfl, W, ?_, ?_, ?_, hst, F, N, hJ0, ?_, fun h' tk m' news' F' N' _ hJ => done m' news' h' tk hJ F' N'⟩
  · intro h
    rcases List.mem_cons.mp h with h | h
    · exact hLI h
    · exact hLf h
  · intro b hb; rw [List.mem_singleton.mp hb]; exact hI0
  · intro p hp hb; exact hIn p hp (List.mem_singleton.mp hb)
  · rintro i v m₁ news₁ s₁ own ⟨hh', tk', rfl⟩ hin hP hJ hoff hown hget hall hst' F₁ N₁
    obtain ⟨io, hio⟩ := hob _ _ hst'
    have hIo : (I, io) ∈ own := hall I (.head _) hI0 io hio
    have N₂ : News h₀ env.locals hh' ((I, io) :: news₁) := by
      intro p hp
      rcases List.mem_cons.mp hp with rfl | hp
      · exact N₁ _ (List.mem_append_left _ hIo)
      · exact N₁ _ (List.mem_append_right _ hp)
    have hoff' : ∀ p ∈ news₁, p.1 ≠ I := fun p hp e => hoff p hp (by rw [e]; exact .head _)
    refine wpAny_mono (turn i v m₁ news₁ hh' tk' io hin hP hJ hoff' F₁ N₂) (fun f s₂ p => ?_) fun _ _ e => e
    have fin : TurnE h₀ env.locals I io (J (i + 1)) { s with heap := hh', toks := tk' } s₂ → LoopStepU h₀ env.locals [I] own (J (i + 1)) { s with heap := hh', toks := tk' } .next s₂ := by
      rintro ⟨h', tk, m', news', e, F', N', hI, nx, hnx, hne, hJ'⟩
      refine ⟨rfl, h', tk, m', nx, e, F', ?_, fun p hp hb => hne p hp (List.mem_singleton.mp hb), hJ'⟩
      intro p hp
      rcases List.mem_append.mp hp with hp | hp
      · have e1 := hget p hp
        rcases List.mem_cons.mp (hown p hp) with h2 | h2
        · have : p = (I, io) := by
            refine Prod.ext h2 ?_
            rw [h2, hio] at e1; exact (Option.some.inj e1).symm
          rw [this]; exact N' _ hI
        · have hn := (N₁ p (List.mem_append_left _ hp)).2.2
          rcases hJf _ _ _ hJ _ h2 with ⟨o, ho⟩ | h3
          · rw [hn] at ho; cases ho
          · have e2 := N₁ _ (List.mem_append_right _ h3)
            have e3 : p = (p.1, ob p.1) := by
              refine Prod.ext rfl ?_
              have := e2.1; rw [e1] at this; exact Option.some.inj this
            rcases hJf _ _ _ hJ' _ h2 with ⟨o, ho⟩ | h4
            · rw [hn] at ho; cases ho
            · rw [e3]; exact N' _ (hnx _ h4)
      · exact N' _ (hnx _ hp)
    cases f with
    | ret v => exact .ret p
    | brk => exact .brk p
    | next => exact .next (fin p)
    | cont => exact .cont (fin p)

theorem iter_list {l : Addr} {vs : List Value} {nl : Nat} {m₀ : Str → Option Value} {news : List (Addr × Obj)}
    (J : Nat → (Str → Option Value) → List (Addr × Obj) → Prop)
    (hh : A.handled = none) (F : Fr h₀ env.locals s.heap m₀) (N : News h₀ env.locals s.heap news) (hl : (l, W.listOf vs.toArray nl) ∈ news) (hJ0 : J 0 m₀ news) (hJf : ∀ i m nx, J i m nx → (l, W.listOf vs.toArray nl) ∈ nx)
    (turn : ∀ i v m₁ news₁ h tk I io, vs[i]? = some v → J i m₁ news₁ → (∀ p ∈ news₁, p.1 ≠ I) → Fr h₀ env.locals h (fun y => if y = x then some v else m₁ y) → News h₀ env.locals h ((I, io) :: news₁) →
      wpAny (model prog w) A (execs body env) (TurnP h₀ env.locals I io (J (i + 1)) { s with heap := h, toks := tk } Q) E { s with heap := h, toks := tk })
    (done : ∀ m₁ news₁ h tk, J vs.length m₁ news₁ → Fr h₀ env.locals h m₁ → News h₀ env.locals h news₁ → Q .next { s with heap := h, toks := tk }) :
    wpAny (model prog w) A (pyIter (.ref l)) (fun it s₂ => LoopAtV prog w A h₀ env x body Q E it s₂) E s := by
  have hls : s.heap.IsList l vs.toArray := News.isList N hl
  have hlL : l ≠ env.locals := (N _ hl).2.1
  have hlt : l < s.heap.objs.size := Heap.lt_size (N _ hl).1
  have hne : l ≠ s.heap.objs.size := Nat.ne_of_lt hlt
  refine wpAny_pyIter_list hls ?_
  have WW := Walks.list (prog := prog) (w := w) hh s.heap.objs.size l hne vs.toArray
  have hlen : vs.toArray.size = vs.length := by simp
  rw [hlen] at WW
  refine loop_my (fs := [l]) (ob := fun _ => PySem.W.listOf vs.toArray nl) J WW (next_is_new F) (fun p hp => Nat.ne_of_lt (Heap.lt_size (N p hp).1)) (Nat.ne_of_lt F.ns.lt) (fun h => hlL (List.mem_singleton.mp h).symm) (fun i h st => by obtain ⟨o, ho, _⟩ := st.1; exact ⟨o, ho⟩)
    ⟨⟨_, Heap.get?_push_size _ rfl, rfl, rfl⟩, hls.at fun o e => Heap.get?_push_of_some _ e⟩ (F.push _) (fun p hp => ⟨Heap.get?_push_of_some _ (N p hp).1, (N p hp).2⟩) hJ0 (fun i m nx hj b hb => by rw [List.mem_singleton.mp hb]; exact .inr (hJf i m nx hj)) ?_ ?_
  · intro i v m₁ news₁ h tk io hi hP hJ hoff F₁ N₁
    exact turn i v m₁ news₁ h tk _ io (by simpa using hP) hJ hoff F₁ N₁
  · exact done

theorem iter_tup {l : Addr} {vs : List Value} {lo : Obj} {m₀ : Str → Option Value} {news : List (Addr × Obj)}
    (J : Nat → (Str → Option Value) → List (Addr × Obj) → Prop)
    (hh : A.handled = none) (F : Fr h₀ env.locals s.heap m₀) (N : News h₀ env.locals s.heap news) (ht : IsTup s.heap l vs.toArray) (hlL : l ≠ env.locals) (hJ0 : J 0 m₀ news) (hJf : ∀ i m nx, J i m nx → (∃ o, h₀.get? l = some o) ∨ (l, lo) ∈ nx)
    (turn : ∀ i v m₁ news₁ h tk I io, vs[i]? = some v → J i m₁ news₁ → (∀ p ∈ news₁, p.1 ≠ I) → Fr h₀ env.locals h (fun y => if y = x then some v else m₁ y) → News h₀ env.locals h ((I, io) :: news₁) →
      wpAny (model prog w) A (execs body env) (TurnP h₀ env.locals I io (J (i + 1)) { s with heap := h, toks := tk } Q) E { s with heap := h, toks := tk })
    (done : ∀ m₁ news₁ h tk, J vs.length m₁ news₁ → Fr h₀ env.locals h m₁ → News h₀ env.locals h news₁ → Q .next { s with heap := h, toks := tk }) :
    wpAny (model prog w) A (pyIter (.ref l)) (fun it s₂ => LoopAtV prog w A h₀ env x body Q E it s₂) E s := by
  have hlt : l < s.heap.objs.size := ht.lt
  have hne : l ≠ s.heap.objs.size := Nat.ne_of_lt hlt
  refine wpAny_pyIter_tuple ht ?_
  have WW := Walks.tuple (prog := prog) (w := w) hh s.heap.objs.size l hne vs.toArray
  have hlen : vs.toArray.size = vs.length := by simp
  rw [hlen] at WW
  refine loop_my (fs := [l]) (ob := fun _ => lo) J WW (next_is_new F) (fun p hp => Nat.ne_of_lt (Heap.lt_size (N p hp).1)) (Nat.ne_of_lt F.ns.lt) (fun h => hlL (List.mem_singleton.mp h).symm) (fun i h st => by obtain ⟨o, ho, _⟩ := st.1; exact ⟨o, ho⟩)
    ⟨⟨_, Heap.get?_push_size _ rfl, rfl, rfl⟩, ht.push _⟩ (F.push _) (fun p hp => ⟨Heap.get?_push_of_some _ (N p hp).1, (N p hp).2⟩) hJ0 (fun i m nx hj b hb => by rw [List.mem_singleton.mp hb]; exact hJf i m nx hj) ?_ ?_
  · intro i v m₁ news₁ h tk io hi hP hJ hoff F₁ N₁
    exact turn i v m₁ news₁ h tk _ io (by simpa using hP) hJ hoff F₁ N₁
  · exact done

/-- a range's turns -/
theorem iter_range {r : Addr} {b₀ : Int} {t₀ u₀ v₀ : Tok} {n : Nat} {m₀ : Str → Option Value} {news : List (Addr × Obj)}
    (J : Nat → (Str → Option Value) → List (Addr × Obj) → Prop)
    (hh : A.handled = none) (hr : IsRange s.heap r 0 b₀ 1 t₀ u₀ v₀) (hn : b₀ = (n : Int)) (hb : n ≤ 1000) (F : Fr h₀ env.locals s.heap m₀) (N : News h₀ env.locals s.heap news) (hJ0 : J 0 m₀ news)
    (turn : ∀ i v m₁ news₁ h tk I io, i < n → J i m₁ news₁ → (∀ p ∈ news₁, p.1 ≠ I) → Fr h₀ env.locals h (fun y => if y = x then some v else m₁ y) → News h₀ env.locals h ((I, io) :: news₁) →
      wpAny (model prog w) A (execs body env) (TurnP h₀ env.locals I io (J (i + 1)) { s with heap := h, toks := tk } Q) E { s with heap := h, toks := tk })
    (done : ∀ m₁ news₁ h tk, J n m₁ news₁ → Fr h₀ env.locals h m₁ → News h₀ env.locals h news₁ → Q .next { s with heap := h, toks := tk }) :
    wpAny (model prog w) A (pyIter (.ref r)) (fun it s₂ => LoopAtV prog w A h₀ env x body Q E it s₂) E s := by
  subst hn
  have hsz : Builtin.Range.rangeSize 0 (n : Int) 1 = (n : Int) := by
    unfold Builtin.Range.rangeSize
    rw [if_pos (by decide), Int.ediv_one]
    split <;> omega
  have hsm : Builtin.Range.small 0 (n : Int) 1 = true := by
    have f : ∀ x : Int, -10000 ≤ x → x ≤ 10000 → Builtin.Range.rangeFitsLong x = true := by
      intro x h1 h2
      unfold Builtin.Range.rangeFitsLong
      rw [Bool.and_eq_true, decide_eq_true_iff, decide_eq_true_iff]
      constructor <;> omega
    unfold Builtin.Range.small
    rw [hsz, f 0 (by omega) (by omega), f n (by omega) (by omega), f 1 (by omega) (by omega), if_pos (by decide), f ((n : Int) + (1 - 1)) (by omega) (by omega)]
    simp
  refine wpAny_pyIter_range hr hsm ?_
  have WW : Walks prog w A s.heap.objs.size [s.heap.objs.size] [s.heap.objs.size] n (fun i v => i < n ∧ ∃ t, v = .int (0 + i * 1) t)
      (fun i h => IsRangeIter h s.heap.objs.size (0 + (i : Nat) * 1) ((n : Int) - (i : Nat)) 1) := (Walks.range hh _ 0 1 n).bound
  refine loop_my (fs := []) (ob := fun _ => default) J WW (next_is_new F) (fun p hp => Nat.ne_of_lt (Heap.lt_size (N p hp).1)) (Nat.ne_of_lt F.ns.lt) (fun h => nomatch h) (fun i h st => ⟨_, st⟩)
    (by show IsRangeIter _ _ _ _ _; rw [hsz]; simpa using Heap.get?_push_size _ rfl) (F.push _) (fun p hp => ⟨Heap.get?_push_of_some _ (N p hp).1, (N p hp).2⟩) hJ0 (fun i m nx hj b hb => nomatch hb) ?_ ?_
  · intro i v m₁ news₁ h tk io hi hP hJ hoff F₁ N₁
    exact turn i v m₁ news₁ h tk _ io hi hJ hoff F₁ N₁
  · exact done
end
/-- an entry of the wants -/
structure WE where
  k : Str
  a : Addr
  ad : Addr
  x : WD
def WantsIn (prog : Program) (w : World) (news : List (Addr × Obj)) (d : Addr) (ws : List WE) : Prop :=
  (d == sysModules) = false ∧ (∃ od, (d, od) ∈ news ∧ od.IsDictOf (PySem.strKind prog w) (ws.map fun e => (e.k, Value.ref e.a))) ∧
    ∀ e ∈ ws, (e.a, instObj 136 e.ad) ∈ news ∧ ∃ t, (e.ad, wantO w e.x t 4) ∈ news
def lookW (ws : List WE) (k : Str) : Option WE := ws.find? (fun e => decide (e.k = k))

inductive MsAre (news : List (Addr × Obj)) : List (Str × Value) → List (Str × Int × Int) → Prop
  | nil : MsAre news [] []
  | cons {k : Str} {a : Addr} {x y : Int} {tx ty : Tok} {n : Nat} {kvs : List (Str × Value)} {ms : List (Str × Int × Int)} :
      (a, ({ cls := .type "tuple", data := .seq #[.int x tx, .int y ty] n } : Obj)) ∈ news → MsAre news kvs ms → MsAre news ((k, .ref a) :: kvs) ((k, x, y) :: ms)

structure SO where
  ms : List (Str × Int × Int)
  D : Int
  S : Int
def blen (x : Int) : Int := (Builtin.Int.intBits x : Int)
def soStep (ws : List WE) (st : SO) (t : Str) : SO := match lookW ws t with
  | none => st
  | some e => if e.x.own = false ∧ e.x.v = 1 then ⟨st.ms ++ [(t, 0, 1)], st.D, st.S⟩
    else if e.x.own = true ∨ 1 < e.x.v then
      let b := blen (if e.x.own = true then e.x.m else e.x.v)
      ⟨st.ms ++ [(t, st.S, b)], Builtin.bitOr st.D (e.x.v * 2 ^ st.S.toNat), st.S + b⟩
    else st
def soRun (ws : List WE) (ts : List Str) : SO := ts.foldl (soStep ws) ⟨[], 1, 1⟩

inductive soJ (prog : Program) (w : World) (ws : List WE) (ts : List Str) (news : List (Addr × Obj)) (dm d : Addr) (i : Nat) (m : Str → Option Value) (nx : List (Addr × Obj)) : Prop
  | mk (om : Obj) (kvs : List (Str × Value)) (R : List (Addr × Obj)) (tD tS : Tok) : nx = (dm, om) :: R → (∀ p ∈ news, p ∈ R) → (∀ p ∈ R, p.1 ≠ dm) → (∀ p ∈ R, p ∈ news ∨ ∀ q ∈ news, q.1 < p.1) → om.IsDictOf (PySem.strKind prog w) kvs → MsAre R kvs (soRun ws (ts.take i)).ms →
    m (Str.ofString "masks") = some (.ref dm) → m (Str.ofString "defaults") = some (.int (soRun ws (ts.take i)).D tD) → m (Str.ofString "shift") = some (.int (soRun ws (ts.take i)).S tS) → m (Str.ofString "wants") = some (.ref d) → soJ prog w ws ts news dm d i m nx

def known : List (Str × Value) → (Str → Option Value) → Str → Option Value
  | [], m => m
  | (a, v) :: r, m => fun y => if y = a then some v else known r m y
def Knows (m : Str → Option Value) : List (Str × Value) → Prop
  | [] => True
  | (a, v) :: r => m a = some v ∧ Knows m r
theorem known_eq {m : Str → Option Value} : ∀ {l : List (Str × Value)}, Knows m l → known l m = m
  | [], _ => rfl
  | (a, v) :: r, h => by
    funext y
    show (if y = a then some v else known r m y) = m y
    rw [known_eq h.2]
    by_cases e : y = a
    · rw [if_pos e, e, h.1]
    · rw [if_neg e]
theorem fr_known {h₀ h : Heap} {L : Addr} {m : Str → Option Value} (F : Fr h₀ L h m) (l : List (Str × Value)) (e : Knows m l) : Fr h₀ L h (known l m) := by rw [known_eq e]; exact F
theorem fr_knownX {h₀ h : Heap} {L : Addr} {m : Str → Option Value} {x : Str} {u : Option Value} (F : Fr h₀ L h (fun y => if y = x then u else m y)) (l : List (Str × Value)) (e : Knows m l) : Fr h₀ L h (fun y => if y = x then u else known l m y) := by rw [known_eq e]; exact F

section
variable {prog : Program} {w : World} {A : Around} {E : Value → Shared → Prop} {s : Shared} {h₀ : Heap} {L : Addr} {m : Str → Option Value} {news : List (Addr × Obj)}
theorem sorted_my {l : Addr} {vs : List Value} {ss : List Str} {n : Nat} {Q : Value → Shared → Prop} (F : Fr h₀ L s.heap m) (N : News h₀ L s.heap news) (hm : (l, PySem.W.listOf vs.toArray n) ∈ news) (hS : StrsAre vs ss) (h64 : vs.length < 64)
    (h : ∀ (h' : Heap) (D : Addr) (vs' : List Value) (ss' : List Str) (e : Nat), Fr h₀ L h' m → News h₀ L h' ((D, PySem.W.listOf vs'.toArray e) :: news) → (∀ p ∈ news, p.1 < D) →
      StrsAre vs' ss' → ss'.Perm ss → sortedS ss' = true → Q (.ref D) { s with heap := h' }) :
    wpAny (model prog w) A (call (.builtin "sorted") [.ref l]) Q E s :=
  sorted_N_str F N (News.isList N hm) hS h64 fun h' vs' ss' e F' N' a b c => h h' _ vs' ss' e F' N' (fun p hp => Nat.lt_succ_of_lt (Heap.lt_size (N p hp).1)) a b c
theorem tuple_my {vs : List Value} {Q : Value → Shared → Prop} (F : Fr h₀ L s.heap m) (N : News h₀ L s.heap news)
    (h : ∀ D h', Fr h₀ L h' m → News h₀ L h' ((D, { cls := .type "tuple", data := .seq vs.toArray }) :: news) → (∀ p ∈ news, p.1 < D) → Q (.ref D) { s with heap := h' }) (hsz : vs.length ≤ 1000) :
    wpAny (model prog w) A (newTuple vs) Q E s :=
  newTuple_N F N (fun h' F' N' => h _ h' F' N' fun p hp => Heap.lt_size (N p hp).1) (by rw [PySem.sizeLine_eq]; omega)
theorem set_my {d : Addr} {o : Obj} {g : Obj → List (Addr × Obj)} {kvs : List (Str × Value)} {k : Str} {t : Tok} {v : Value} {Q : Unit → Shared → Prop} (F : Fr h₀ L s.heap m) (N : News h₀ L s.heap news) (U : UpdF d o news g) (hd : o.IsDictOf (PySem.strKind prog w) kvs)
    (hsz : kvs.length ≤ 1000) (h : ∀ h' o', Fr h₀ L h' m → News h₀ L h' (g o') → o'.IsDictOf (PySem.strKind prog w) (stored kvs k v) → Q () { s with heap := h', toks := s.toks + 1 }) : wpAny (model prog w) A (setItem (.ref d) (.str k t) v) Q E s :=
  kda_set F N U hd (strKind_is _ _ _ _) (by rw [PySem.sizeLine_eq]; omega) h
end

theorem lt_of_allLt {R : List (Addr × Obj)} {d : Addr} (h : AllLt d R) : ∀ p ∈ R, p.1 < d := by
  induction R with
  | nil => intro p hp; nomatch hp
  | cons q r ih =>
    intro p hp
    rcases List.mem_cons.mp hp with rfl | hp
    · exact h.1
    · exact ih h.2 p hp
theorem ne_of_allLt {R : List (Addr × Obj)} {d : Addr} (h : AllLt d R) : ∀ p ∈ R, p.1 ≠ d := by
  induction R with
  | nil => intro p hp; nomatch hp
  | cons q r ih =>
    intro p hp
    rcases List.mem_cons.mp hp with rfl | hp
    · exact Nat.ne_of_lt h.1
    · exact ih h.2 p hp
set_option hygiene false in
local macro_rules | `(tactic| k_mem) => `(tactic| ((repeat (first | (with_reducible assumption) | (with_reducible exact List.Mem.head _) | (refine' List.mem_cons_of_mem _ ?_))); done))
set_option hygiene false in
local macro_rules | `(tactic| walk_at "call ref") => `(tactic| (k_here; (try dsimp only [List.append_nil, List.nil_append, List.cons_append]); (with_reducible show wpAny _ _ (call (Value.ref 133) [Value.ref _]) _ _ _); k_dflt (refine' own_spec (by k_asm) (by k_asm) (by k_asm) (by k_asm) (by k_mem) (by k_mem) (by k_asm) rfl (by first | assumption | ktr_room) ?_); intros))
set_option hygiene false in
local macro_rules | `(tactic| walk_at "setItem ref str") => `(tactic| (k_here; k_dflt (refine' set_my (by k_asm) (by k_asm) (by k_updF) (by k_asm) (by assumption) ?_); intro h'Z o'Z F'Z N'Z hd'Z; (try dsimp only at N'Z)))
set_option hygiene false in
local macro_rules | `(tactic| walk_at "subscriptTail") => `(tactic| (k_here; (with_reducible show wpAny _ _ (subscriptTail _ _ (Value.ref _) (Value.str _ _)) _ _ _); k_dflt (refine' kda_item (knd := PySem.strKind _ _) (by k_asm) (by k_mem) (by k_asm) (strKind_is _ _ _ _) (by assumption) ?_)))
section
local macro_rules | `(tactic| walk_at "call builtin:sorted") => `(tactic| (k_here; (with_reducible show wpAny _ _ (call (Value.builtin "sorted") [Value.ref _]) _ _ _); k_dflt (refine' sorted_my (by k_asm) (by k_asm) (by first | assumption | k_mem) (by assumption) (by assumption) ?_); intro h' D' vs' ss' e' F' N' l1 S' P' O'))
set_option hygiene false in
local macro_rules | `(tactic| walk_at "newTuple") => `(tactic| (k_here; k_dflt (refine' tuple_my (by k_asm) (by k_asm) ?_ (Nat.le_of_ble_eq_true rfl)); intro D'Z h'Z F'Z N'Z l1Z; (try k_lt l1Z); (try k_sweep)))

theorem lookW_at (ws : List WE) (t : Str) : valueAt (ws.map fun e => (e.k, Value.ref e.a)) t = (lookW ws t).map fun e => Value.ref e.a := by
  induction ws with
  | nil => rfl
  | cons e r ih =>
    unfold valueAt lookW at *
    rw [List.map_cons, List.find?_cons, List.find?_cons]
    by_cases h : e.k = t
    · simp [h]
    · simp [h]; simpa using ih
theorem lookW_mem {ws : List WE} {t : Str} {e : WE} (h : lookW ws t = some e) : e ∈ ws ∧ e.k = t := by
  unfold lookW at h
  exact ⟨List.mem_of_find?_eq_some h, by simpa using List.find?_some h⟩
def Small (ws : List WE) : Prop := ∀ e ∈ ws, 0 ≤ e.x.v ∧ e.x.v ≤ 9 ∧ 0 ≤ e.x.m ∧ e.x.m ≤ 9
theorem ten {P : Int → Prop} {x : Int} (h0 : 0 ≤ x) (h : x ≤ 9) (d : ∀ n : Fin 10, P (n.val : Int)) : P x := by
  obtain ⟨n, rfl⟩ := Int.eq_ofNat_of_zero_le h0
  exact d ⟨n, Nat.lt_succ_of_le (Int.ofNat_le.mp h)⟩
theorem bits_small {x : Int} (h0 : 0 ≤ x) (h : x ≤ 9) : 0 ≤ blen x ∧ blen x ≤ 4 := ten (P := fun x => 0 ≤ blen x ∧ blen x ≤ 4) h0 h (by decide)
theorem soStep_S {ws : List WE} (hs : Small ws) (st : SO) (t : Str) : st.S ≤ (soStep ws st t).S ∧ (soStep ws st t).S ≤ st.S + 4 := by
  unfold soStep
  split
  · omega
  · rename_i e he
    have hb := hs e (lookW_mem he).1
    have b1 := bits_small hb.1 hb.2.1
    have b2 := bits_small hb.2.2.1 hb.2.2.2
    split
    · dsimp only; omega
    · split
      · dsimp only; split <;> omega
      · omega
theorem soFold_S {ws : List WE} (hs : Small ws) (l : List Str) : ∀ st : SO, st.S ≤ (l.foldl (soStep ws) st).S ∧ (l.foldl (soStep ws) st).S ≤ st.S + 4 * l.length := by
  induction l with
  | nil => intro st; simp
  | cons t r ih =>
    intro st
    have h1 := soStep_S hs st t
    have h2 := ih (soStep ws st t)
    simp only [List.foldl_cons, List.length_cons]
    omega
theorem soRun_S {ws : List WE} (hs : Small ws) (l : List Str) : 1 ≤ (soRun ws l).S ∧ (soRun ws l).S ≤ 1 + 4 * l.length := soFold_S hs l ⟨[], 1, 1⟩
theorem soRun_take {ws : List WE} {l : List Str} {i : Nat} {t : Str} (h : l[i]? = some t) : soRun ws (l.take (i + 1)) = soStep ws (soRun ws (l.take i)) t := by
  unfold soRun
  rw [List.take_add_one, h]
  simp
theorem MsAre.mono {news news' : List (Addr × Obj)} {kvs : List (Str × Value)} {ms : List (Str × Int × Int)} (h : MsAre news kvs ms) (hs : ∀ p ∈ news, p ∈ news') : MsAre news' kvs ms := by
  induction h with
  | nil => exact .nil
  | cons hm _ ih => exact .cons (hs _ hm) ih
theorem MsAre.snoc {news : List (Addr × Obj)} {kvs : List (Str × Value)} {ms : List (Str × Int × Int)} (h : MsAre news kvs ms) {k : Str} {a : Addr} {x y : Int} {tx ty : Tok} {n : Nat}
    (hm : (a, ({ cls := .type "tuple", data := .seq #[.int x tx, .int y ty] n } : Obj)) ∈ news) : MsAre news (kvs ++ [(k, .ref a)]) (ms ++ [(k, x, y)]) := by
  induction h with
  | nil => exact .cons hm .nil
  | cons h1 _ ih => exact .cons h1 ih
theorem MsAre.keys {news : List (Addr × Obj)} {kvs : List (Str × Value)} {ms : List (Str × Int × Int)} (h : MsAre news kvs ms) : kvs.map (·.1) = ms.map (·.1) := by
  induction h with
  | nil => rfl
  | cons _ _ ih => simp [ih]
theorem stored_new {kvs : List (Str × Value)} {k : Str} {v : Value} (h : k ∉ kvs.map (·.1)) : stored kvs k v = kvs ++ [(k, v)] := by
  unfold stored
  rw [if_neg]
  simp only [List.any_eq_true, decide_eq_true_eq, not_exists, not_and]
  intro p hp e
  exact h (e ▸ List.mem_map_of_mem hp)
theorem strsAre_get {vs : List Value} {ss : List Str} (h : StrsAre vs ss) : ∀ {i : Nat} {v : Value}, vs[i]? = some v → ∃ x t, v = .str x t ∧ ss[i]? = some x := by
  induction h with
  | nil => intro i v hv; simp at hv
  | cons x t _ ih =>
    intro i v hv
    cases i with
    | zero => simp at hv; exact ⟨x, t, hv.symm, rfl⟩
    | succ i => simpa using ih (by simpa using hv)
theorem soFold_keys (ws : List WE) (l : List Str) : ∀ st : SO, ∀ k ∈ (l.foldl (soStep ws) st).ms.map (·.1), k ∈ st.ms.map (·.1) ∨ k ∈ l := by
  induction l with
  | nil => intro st k hk; exact .inl hk
  | cons t r ih =>
    intro st k hk
    rw [List.foldl_cons] at hk
    rcases ih _ k hk with h | h
    · have : (soStep ws st t).ms.map (·.1) = st.ms.map (·.1) ∨ (soStep ws st t).ms.map (·.1) = st.ms.map (·.1) ++ [t] := by
        unfold soStep
        split
        · exact .inl rfl
        · split
          · right; simp
          · split
            · right; simp
            · exact .inl rfl
      rcases this with e | e
      · rw [e] at h; exact .inl h
      · rw [e] at h
        rcases List.mem_append.mp h with h | h
        · exact .inl h
        · right; rw [List.mem_singleton.mp h]; exact .head _
    · exact .inr (.tail _ h)

theorem soRun_keys (ws : List WE) (l : List Str) : ∀ k ∈ (soRun ws l).ms.map (·.1), k ∈ l := by
  intro k hk
  rcases soFold_keys ws l ⟨[], 1, 1⟩ k hk with h | h
  · exact absurd h (by simp)
  · exact h

theorem soFold_len (ws : List WE) (l : List Str) : ∀ st : SO, (l.foldl (soStep ws) st).ms.length ≤ st.ms.length + l.length := by
  induction l with
  | nil => intro st; simp
  | cons t r ih =>
    intro st
    have h1 : (soStep ws st t).ms.length ≤ st.ms.length + 1 := by
      unfold soStep
      split
      · omega
      · split
        · simp
        · split
          · simp
          · omega
    have h2 := ih (soStep ws st t)
    simp only [List.foldl_cons, List.length_cons]
    omega
theorem not_mem_take {l : List Str} (h : l.Nodup) {i : Nat} {t : Str} (ht : l[i]? = some t) : t ∉ l.take i := by
  intro hm
  obtain ⟨j, hj⟩ := List.mem_iff_getElem?.mp hm
  have hji : j < i := by
    have := (List.getElem?_eq_some_iff.mp hj).1
    simp only [List.length_take] at this
    omega
  rw [List.getElem?_take_of_lt hji] at hj
  have hi := (List.getElem?_eq_some_iff.mp ht).1
  have e1 := (List.getElem?_eq_some_iff.mp hj)
  have e2 := (List.getElem?_eq_some_iff.mp ht)
  have := (List.nodup_iff_pairwise_ne.mp h)
  have := List.pairwise_iff_getElem.mp this j i e1.1 e2.1 hji
  rw [e1.2, e2.2] at this
  exact this rfl

abbrev tupO (x y : Int) (tx ty : Tok) : Obj := { cls := .type "tuple", data := .seq (List.toArray [Value.int x tx, Value.int y ty]) 0 }

theorem so_end {prog : Program} {w : World} {g h' : Heap} {L I T dm d : Addr} {io om o' : Obj} {M : Str → Option Value} {ws : List WE} {ss : List Str} {news R : List (Addr × Obj)} {kvs : List (Str × Value)} {i : Nat} {t : Str} {x y D S : Int} {tx ty tD tS : Tok} {st0 : SO} {s₁ : Shared} {tk : Nat}
    (F : Fr g L h' M) (N : News g L h' ((T, tupO x y tx ty) :: (I, io) :: (dm, o') :: R)) (hl : I < T ∧ dm < T ∧ AllLt T R) (hd : o'.IsDictOf (PySem.strKind prog w) (stored kvs t (.ref T)))
    (hI : ∀ p ∈ (dm, om) :: R, p.1 ≠ I) (hsub : ∀ p ∈ news, p ∈ R) (hR : ∀ p ∈ R, p.1 ≠ dm) (hnew : ∀ p ∈ R, p ∈ news ∨ ∀ q ∈ news, q.1 < p.1) (hms : MsAre R kvs st0.ms) (hk : t ∉ kvs.map (·.1))
    (e : soRun ws (ss.take (i + 1)) = ⟨st0.ms ++ [(t, x, y)], D, S⟩) (m1 : M (Str.ofString "masks") = some (.ref dm)) (m2 : M (Str.ofString "defaults") = some (.int D tD)) (m3 : M (Str.ofString "shift") = some (.int S tS)) (m4 : M (Str.ofString "wants") = some (.ref d)) :
    TurnE g L I io (soJ prog w ws ss news dm d (i + 1)) s₁ { s₁ with heap := h', toks := tk } := by
  have hT : ∀ p ∈ R, p.1 < T := by
    intro p hp
    have := hl.2.2
    clear N hnew hms hI hsub hR
    induction R with
    | nil => nomatch hp
    | cons q r ih =>
      rcases List.mem_cons.mp hp with rfl | hp
      · exact this.1
      · exact ih ⟨hl.1, hl.2.1, this.2⟩ hp this.2
  refine ⟨h', tk, M, _, rfl, F, N, .tail _ (.head _), (dm, o') :: (T, tupO x y tx ty) :: R, ?_, ?_, o', kvs ++ [(t, .ref T)], (T, tupO x y tx ty) :: R, tD, tS, rfl, fun p hp => .tail _ (hsub p hp), ?_, ?_, ?_, ?_, m1, ?_, ?_, m4⟩
  · intro p hp
    rcases List.mem_cons.mp hp with rfl | hp
    · exact .tail _ (.tail _ (.head _))
    · rcases List.mem_cons.mp hp with rfl | hp
      · exact .head _
      · exact .tail _ (.tail _ (.tail _ hp))
  · intro p hp
    rcases List.mem_cons.mp hp with rfl | hp
    · exact hI (dm, om) (.head _)
    · rcases List.mem_cons.mp hp with rfl | hp
      · exact Nat.ne_of_gt hl.1
      · exact hI p (.tail _ hp)
  · intro p hp
    rcases List.mem_cons.mp hp with rfl | hp
    · exact Nat.ne_of_gt hl.2.1
    · exact hR p hp
  · intro p hp
    rcases List.mem_cons.mp hp with rfl | hp
    · exact .inr fun q hq => hT q (hsub q hq)
    · exact hnew p hp
  · rw [stored_new hk] at hd; exact hd
  · rw [e]
    exact (hms.mono (fun p hp => .tail _ hp)).snoc (.head _)
  · rw [e]; exact m2
  · rw [e]; exact m3
theorem so_end0 {prog : Program} {w : World} {g h' : Heap} {L I dm d : Addr} {io om : Obj} {M : Str → Option Value} {ws : List WE} {ss : List Str} {news R : List (Addr × Obj)} {kvs : List (Str × Value)} {i : Nat} {tD tS : Tok} {st0 : SO} {s₁ : Shared} {tk : Nat}
    (F : Fr g L h' M) (N : News g L h' ((I, io) :: (dm, om) :: R)) (hd : om.IsDictOf (PySem.strKind prog w) kvs)
    (hI : ∀ p ∈ (dm, om) :: R, p.1 ≠ I) (hsub : ∀ p ∈ news, p ∈ R) (hR : ∀ p ∈ R, p.1 ≠ dm) (hnew : ∀ p ∈ R, p ∈ news ∨ ∀ q ∈ news, q.1 < p.1) (hms : MsAre R kvs st0.ms)
    (e : soRun ws (ss.take (i + 1)) = st0) (m1 : M (Str.ofString "masks") = some (.ref dm)) (m2 : M (Str.ofString "defaults") = some (.int st0.D tD)) (m3 : M (Str.ofString "shift") = some (.int st0.S tS)) (m4 : M (Str.ofString "wants") = some (.ref d)) :
    TurnE g L I io (soJ prog w ws ss news dm d (i + 1)) s₁ { s₁ with heap := h', toks := tk } := by
  subst e
  exact ⟨h', tk, M, _, rfl, F, N, .head _, (dm, om) :: R, fun p hp => .tail _ hp, hI, om, kvs, R, tD, tS, rfl, hsub, hR, hnew, hd, hms, m1, m2, m3, m4⟩

set_option maxHeartbeats 4000000 in
theorem so_spec {prog : Program} {w : World} {p : Program} {loose : List Str} {mean : ExcName → Option Value} {mg mb : Str → Option Value}
    {dp un : Nat} {gd : Option (List Code)} {cn : Str} {cs : Scope} {a : Addr} {ccd : Value} {cl : List (Str × Addr)} {outer : List Env} {A₀ : Around} {base h₀ : Heap} {L : Addr} {m : Str → Option Value} {news : List (Addr × Obj)} {s : Shared}
    {Q E : Value → Shared → Prop} {d tl : Addr} {ws : List WE} {tv : List Value} {ts : List Str} {n : Nat}
    (B : Below A₀ base outer h₀) (F : Fr h₀ L s.heap m) (X : (hd.heap_39 w.params).In h₀)
    (N : News h₀ L s.heap news) (hW : WantsIn prog w news d ws) (htl : (tl, PySem.W.listOf tv.toArray n) ∈ news) (hts : StrsAre tv ts) (hlen : tv.length < 64)
    (hnd : ts.Nodup) (hin : ∀ t ∈ ts, ∃ e, lookW ws t = some e) (hS : Small ws)
    (T : Top p loose mean mg mb h₀) (hcs : cs.kind = .function) (hdp : dp + 10 < recursionLimit)
    (hS31 : ∀ l : List Str, l.Perm ts → (soRun ws l).S ≤ 31)
    (ret : ∀ h' tk' rt dm om kvs R ss' tD, ss'.Perm ts → sortedS ss' = true → Fr h₀ L h' m → News h₀ L h' ((rt, { cls := .type "tuple", data := .seq (List.toArray [Value.ref dm, Value.int (soRun ws ss').D tD]) 0 }) :: (dm, om) :: R) → (∀ p ∈ news, p ∈ R) →
      (∀ p ∈ R, p ∈ news ∨ ∀ q ∈ news, q.1 < p.1) → (∀ p ∈ news, p.1 < dm) → (∀ p ∈ news, p.1 < rt) → (dm == sysModules) = false → om.IsDictOf (PySem.strKind prog w) kvs → MsAre R kvs (soRun ws ss').ms → Q (.ref rt) { s with heap := h', toks := tk' }) :
    wpAny (model prog w) (ktrTop dp un gd cn cs L a ccd cl outer) (call (.ref 161) [.ref d, .ref tl]) Q E s := by
  refine wpAny_call ?_
  have hdp5 : dp + 1 + 5 < recursionLimit := by omega
  k_dflt ktr_enter
  k_with "pyIter ref" => (fail "stop here")
  k_steps
  rename_i hx D vs' ss' e F1 N1 l1 hSS hPP hOO
  rename Obj.IsDictOf (PySem.strKind prog w) _ [] => hdm0
  rename ∀ p ∈ news, p.1 < _ => hlt0
  have N2 := news_sub N1 (b := (_, _) :: (D, PySem.W.listOf vs'.toArray e) :: news) (by
    intro p hp
    rcases List.mem_cons.mp hp with rfl | hp
    · exact .tail _ (.head _)
    · rcases List.mem_cons.mp hp with rfl | hp
      · exact .head _
      · exact .tail _ (.tail _ hp))
  refine' iter_list (J := soJ prog w ws ss' ((D, PySem.W.listOf vs'.toArray e) :: news) _ d) ?hh F1 N2 ?hl ?J0 ?Jf ?turn ?done
  case hh => rfl
  case hl => exact .tail _ (.head _)
  case J0 =>
    refine ⟨_, [], _, _, _, rfl, fun p hp => hp, ?_, fun p hp => .inl hp, hdm0, .nil, by with_unfolding_all rfl, by with_unfolding_all rfl, by with_unfolding_all rfl, by with_unfolding_all rfl⟩
    intro p hp
    rcases List.mem_cons.mp hp with rfl | hp
    · exact Nat.ne_of_gt (l1 _ (.head _))
    · exact Nat.ne_of_lt (hlt0 p hp)
  case Jf =>
    rintro i m nx ⟨om, kvs, R, tD, tS, rfl, hsub, -⟩
    exact .tail _ (hsub _ (.head _))
  case turn =>
    intro i v m₁ news₁ h tk I io hv hJ hI F3 N3
    obtain ⟨om, kvs, R, tD, tS, rfl, hsub, hR, hnew, hom, hms, hm1, hm2, hm3, hm4⟩ := hJ
    have F4 := fr_knownX F3 [(_, _), (_, _), (_, _), (_, _)] ⟨hm1, hm2, hm3, hm4, trivial⟩
    simp only [known] at F4
    clear F3
    obtain ⟨t, tt, rfl, hst⟩ := strsAre_get hSS hv
    have htm : t ∈ ts := hPP.mem_iff.mp (List.mem_of_getElem? hst)
    obtain ⟨en, hen⟩ := hin t htm
    obtain ⟨hd0, ⟨od, hod, hodd⟩, hall⟩ := hW
    obtain ⟨h1, tw, h2⟩ := hall en (lookW_mem hen).1
    replace h1 := hsub _ (.tail _ h1)
    replace h2 := hsub _ (.tail _ h2)
    replace hod := hsub _ (.tail _ hod)
    have hval : valueAt (ws.map fun e => (e.k, Value.ref e.a)) t = some (.ref en.a) := by rw [lookW_at, hen]; rfl
    have hsm := hS en (lookW_mem hen).1
    have hS1 := soRun_S hS (ss'.take i)
    have hil : i < 64 := by
      have := (List.getElem?_eq_some_iff.mp hst).1
      have := hPP.length_eq
      have := hts.length
      omega
    have hS2 : (soRun ws (ss'.take i)).S ≤ 300 := by have := List.length_take_le i ss'; omega
    have hIdm : I ≠ _ := Ne.symm (hI _ (.head _))
    have hIR : ∀ p ∈ R, p.1 ≠ I := fun p hp => hI p (.tail _ hp)
    generalize hst0 : soRun ws (ss'.take i) = st0 at *
    have hkl : kvs.length ≤ 1000 := by
      have h1 := congrArg List.length hms.keys
      simp only [List.length_map] at h1
      have h2 := soFold_len ws (ss'.take i) ⟨[], 1, 1⟩
      have h3 : st0.ms.length ≤ (ss'.take i).length := by rw [← hst0]; simpa [soRun] using h2
      have := List.length_take_le i ss'
      omega
    have hkn : t ∉ kvs.map (·.1) := by
      rw [hms.keys, ← hst0]
      intro hm
      exact not_mem_take (hPP.nodup_iff.mpr hnd) hst (soRun_keys _ _ _ hm)
    have hstep : soRun ws (ss'.take (i + 1)) = soStep ws st0 t := by rw [soRun_take hst, hst0]
    unfold soStep at hstep
    rw [hen] at hstep
    dsimp only at hstep
    k_steps
    · rename en.x.own = _ => ho
      show TurnE _ _ _ _ _ _ _
      rw [ho] at hstep
      refine so_end (tD := _) (tS := _) (by assumption) (by assumption) (by assumption) (by assumption) hI hsub hR hnew hms hkn (hstep.trans ?_) (by with_unfolding_all rfl) (by with_unfolding_all rfl) (by with_unfolding_all rfl) (by with_unfolding_all rfl)
      simp [blen]
    · rename en.x.own = _ => ho
      rename en.x.v = 1 => hv1
      show TurnE _ _ _ _ _ _ _
      rw [ho, hv1] at hstep
      refine so_end (tD := _) (tS := _) (by assumption) (by assumption) (by assumption) (by assumption) hI hsub hR hnew hms hkn (hstep.trans ?_) (by with_unfolding_all rfl) (by with_unfolding_all rfl) (by with_unfolding_all rfl) (by with_unfolding_all rfl)
      simp
    · rename en.x.own = _ => ho
      rename en.x.v ≠ 1 => hv1
      rename 1 < en.x.v => hv2
      show TurnE _ _ _ _ _ _ _
      rw [ho] at hstep
      refine so_end (tD := _) (tS := _) (by assumption) (by assumption) (by assumption) (by assumption) hI hsub hR hnew hms hkn (hstep.trans ?_) (by with_unfolding_all rfl) (by with_unfolding_all rfl) (by with_unfolding_all rfl) (by with_unfolding_all rfl)
      simp [blen, hv1, hv2]
    · rename en.x.own = _ => ho
      rename en.x.v ≠ 1 => hv1
      rename ¬ 1 < en.x.v => hv2
      show TurnE _ _ _ _ _ _ _
      rw [ho] at hstep
      refine so_end0 (tD := _) (tS := _) (st0 := st0) (by assumption) (by assumption) hom hI hsub hR hnew hms (hstep.trans ?_) (by with_unfolding_all rfl) (by with_unfolding_all rfl) (by with_unfolding_all rfl) (by with_unfolding_all rfl)
      simp [hv1, hv2]
  case done =>
    intro m₁ news₁ h tk hJ F3 N3
    obtain ⟨om, kvs, R, tD, tS, rfl, hsub, hR, hnew, hom, hms, hm1, hm2, hm3, hm4⟩ := hJ
    have hln : vs'.length = ss'.length := hSS.length
    rw [show List.take vs'.length ss' = ss' from by rw [hln, List.take_length]] at hms hm2 hm3
    have F4 := fr_known F3 [(_, _), (_, _), (_, _), (_, _)] ⟨hm1, hm2, hm3, hm4, trivial⟩
    simp only [known] at F4
    clear F3
    have hS3 := hS31 ss' hPP
    k_steps
    refine ret _ _ _ _ om kvs R ss' tD hPP hOO (by assumption) (by assumption) (fun p hp => hsub p (.tail _ hp)) ?_ hlt0 ?_ (by assumption) hom hms
    · intro p hp
      rcases hnew p hp with h1 | h1
      · rcases List.mem_cons.mp h1 with rfl | h1
        · exact .inr fun q hq => l1 q (.tail _ hq)
        · exact .inl h1
      · exact .inr fun q hq => h1 q (.tail _ hq)
    · intro p hp
      rename _ < _ ∧ AllLt _ R => hrt
      exact lt_of_allLt hrt.2 p (hsub p (.tail _ hp))
end
theorem not_in_my {prog : Program} {w : World} {A : Around} {E : Value → Shared → Prop} {s : Shared} {h₀ : Heap} {L : Addr} {news : List (Addr × Obj)} {d : Addr} {o : Obj} {kvs : List (Str × Value)} {k : Str} {t : Tok} {Q : Value → Shared → Prop} (N : News h₀ L s.heap news) (hp : (d, o) ∈ news)
    (hd : o.IsDictOf (PySem.strKind prog w) kvs) (lo : (d == sysModules) = false) (h : Q (.bool (!(valueAt kvs k).isSome)) { s with toks := s.toks + 1 }) : wpAny (model prog w) A (compareOp .NotIn (.str k t) (.ref d)) Q E s :=
  wpAny_notIn_of (strKind_is _ _ _ _) lo (kda_dict N hp hd).mapOf h
section
variable {prog : Program} {w : World} {A : Around} {E : Value → Shared → Prop} {s : Shared} {h₀ : Heap} {L : Addr} {news : List (Addr × Obj)} {d : Addr} {o : Obj} {kvs : List (Str × Value)} {k : Str} {t : Tok} {v : Value} {Q : Value → Shared → Prop}
theorem not_in_some (N : News h₀ L s.heap news) (hp : (d, o) ∈ news) (hd : o.IsDictOf (PySem.strKind prog w) kvs) (lo : (d == sysModules) = false) (hv : valueAt kvs k = some v) (h : Q (.bool false) { s with toks := s.toks + 1 }) :
    wpAny (model prog w) A (compareOp .NotIn (.str k t) (.ref d)) Q E s := not_in_my N hp hd lo (by rw [hv]; exact h)
theorem not_in_none (N : News h₀ L s.heap news) (hp : (d, o) ∈ news) (hd : o.IsDictOf (PySem.strKind prog w) kvs) (lo : (d == sysModules) = false) (hv : valueAt kvs k = none) (h : Q (.bool true) { s with toks := s.toks + 1 }) :
    wpAny (model prog w) A (compareOp .NotIn (.str k t) (.ref d)) Q E s := not_in_my N hp hd lo (by rw [hv]; exact h)
theorem in_some (N : News h₀ L s.heap news) (hp : (d, o) ∈ news) (hd : o.IsDictOf (PySem.strKind prog w) kvs) (lo : (d == sysModules) = false) (hv : valueAt kvs k = some v) (h : Q (.bool true) { s with toks := s.toks + 1 }) :
    wpAny (model prog w) A (compareOp .In (.str k t) (.ref d)) Q E s := kda_in N hp hd lo (strKind_is _ _ _ _) true (by rw [hv]; rfl) h
theorem in_none (N : News h₀ L s.heap news) (hp : (d, o) ∈ news) (hd : o.IsDictOf (PySem.strKind prog w) kvs) (lo : (d == sysModules) = false) (hv : valueAt kvs k = none) (h : Q (.bool false) { s with toks := s.toks + 1 }) :
    wpAny (model prog w) A (compareOp .In (.str k t) (.ref d)) Q E s := kda_in N hp hd lo (strKind_is _ _ _ _) false (by rw [hv]; rfl) h
end
set_option hygiene false in
local macro_rules | `(tactic| walk_at "compareOp NotIn str ref") => `(tactic| (k_here; k_dflt (first
  | (refine' not_in_some (by k_asm) (by k_mem) (by k_asm) (by assumption) (by assumption) ?_)
  | (refine' not_in_none (by k_asm) (by k_mem) (by k_asm) (by assumption) (by assumption) ?_))))
set_option hygiene false in
local macro_rules | `(tactic| walk_at "compareOp In str ref") => `(tactic| (k_here; k_dflt (first
  | (refine' in_some (by k_asm) (by k_mem) (by k_asm) (by assumption) (by assumption) ?_)
  | (refine' in_none (by k_asm) (by k_mem) (by k_asm) (by assumption) (by assumption) ?_))))
set_option maxHeartbeats 4000000 in
theorem mask_spec {prog : Program} {w : World} {p : Program} {loose : List Str} {mean : ExcName → Option Value} {mg mb : Str → Option Value}
    {dp un : Nat} {gd : Option (List Code)} {cn : Str} {cs : Scope} {a : Addr} {ccd : Value} {cl : List (Str × Addr)} {outer : List Env} {A₀ : Around} {base h₀ : Heap} {L : Addr} {m : Str → Option Value} {news : List (Addr × Obj)} {s : Shared}
    {Q E : Value → Shared → Prop} {dm ta : Addr} {om : Obj} {kvs : List (Str × Value)} {t : Str} {tt tx ty : Tok} {x y : Int} {nt : Nat}
    (B : Below A₀ base outer h₀) (F : Fr h₀ L s.heap m) (X : (hd.heap_39 w.params).In h₀)
    (N : News h₀ L s.heap news) (hm : (dm, om) ∈ news) (hlo : (dm == sysModules) = false) (hd : om.IsDictOf (PySem.strKind prog w) kvs) (hv : valueAt kvs t = some (.ref ta)) (ht : (ta, ({ cls := .type "tuple", data := .seq #[Value.int x tx, Value.int y ty] nt } : Obj)) ∈ news)
    (hx0 : 0 ≤ x) (hx : x ≤ 31) (hy0 : 0 ≤ y) (hy : y ≤ 8)
    (T : Top p loose mean mg mb h₀) (hcs : cs.kind = .function) (hdp : dp + 5 < recursionLimit)
    (ret : ∀ h' tk' tr, Fr h₀ L h' m → News h₀ L h' news → Q (.int ((1 * 2 ^ y.toNat - 1) * 2 ^ x.toNat) tr) { s with heap := h', toks := tk' }) :
    wpAny (model prog w) (ktrTop dp un gd cn cs L a ccd cl outer) (call (.ref 168) [.ref dm, .str t tt]) Q E s := by
  refine wpAny_call ?_
  k_dflt ktr_enter
  k_steps
  exact ret _ _ _ (by assumption) (by assumption)
def tf6 (a b c d e f : Tok) : Nat → Tok
  | 0 => a | 1 => b | 2 => c | 3 => d | 4 => e | _ => f

set_option hygiene false in
local macro_rules | `(tactic| k_all) => `(tactic| first | assumption | exact ne_of_allLt (by assumption) | exact ne_of_allLt (And.right (by assumption)) | exact ne_of_allLt (And.right (And.right (by assumption))) | exact ne_of_allLt (And.right (And.right (And.right (by assumption)))))
set_option hygiene false in
local macro_rules | `(tactic| k_room) => `(tactic| ((try simp only [depth_under_make, depth_under_kw, depth_in1, depth_deeper, depth_caller]); (try dsimp only [ktrTop]); omega))


set_option maxHeartbeats 4000000 in
theorem want_spec {prog : Program} {w : World} {p : Program} {loose : List Str} {mean : ExcName → Option Value} {mg mb : Str → Option Value}
    {dp un : Nat} {gd : Option (List Code)} {cn : Str} {cs : Scope} {a : Addr} {ccd : Value} {cl : List (Str × Addr)} {outer : List Env} {A₀ : Around} {base h₀ : Heap} {L : Addr} {m : Str → Option Value} {news : List (Addr × Obj)} {s : Shared}
    {Q E : Value → Shared → Prop} {v mo : Int} {tv tm : Tok}
    (B : Below A₀ base outer h₀) (F : Fr h₀ L s.heap m) (X : (hd.heap_39 w.params).In h₀)
    (N : News h₀ L s.heap news) (T : Top p loose mean mg mb h₀) (hcs : cs.kind = .function) (hdp : dp + 5 < recursionLimit)
    (ret : ∀ h' tk' x dx t, AllLt dx news → @LT.lt Nat _ dx x → Fr h₀ L h' m → News h₀ L h' ((x, instObj 136 dx) :: (dx, wantO w ⟨v, mo, false, false⟩ t 4) :: news) → Q (.ref x) { s with heap := h', toks := tk' }) :
    wpAny (model prog w) (ktrTop dp un gd cn cs L a ccd cl outer) (call (.ref 136) [.int v tv, .int mo tm]) Q E s := by
  k_dflt (refine' call_cls ?k1 ?k2 ?k3 ?k4 ?k5 ?k6 ?_; (case k1 => k_asm); (case k2 => k_asm); (case k3 => k_asm); (case k4 => k_is); (case k5 => k_is); (case k6 => k_is); k_whole; intro x' d' h' F' N' l1 l2; (try k_lt l1); (try k_lt2 l2); (refine' code_def ?k1 ?k2 ?k3 ?k4 ?k5 ?kA ?kF ?kK ?k6 ?k7 ?k8 ?k9 ?kB ?_ ?c2 ?c3 ?c4 ?c5; (case kA => exact rfl); (case kF => exact rfl); (case kK => assumption); (case k1 => k_asm); (case k2 => k_asm); (case k3 => k_asm); (case k4 => k_asm); (case k5 => k_asm); (case k6 => k_is); (case k7 => k_is); (case k8 => ktr_room); (case k9 => exact binds_K (by k_in) rfl (by k_is) rfl rfl rfl); (case c5 => decide); (case kB => exact locs rfl); (case c2 => exact rfl); (case c3 => exact rfl); (case c4 => exact rfl); k_whole; intro g' L' h' FG' F' N' B' X' T'; (try dsimp only); (try k_fold)))
  k_steps
  refine ret _ _ _ _ (tf6 _ _ _ _ _ _) (allLt_of (by assumption)) (by assumption) (by assumption) (by assumption)
set_option maxHeartbeats 4000000 in
theorem want_spec3 {prog : Program} {w : World} {p : Program} {loose : List Str} {mean : ExcName → Option Value} {mg mb : Str → Option Value}
    {dp un : Nat} {gd : Option (List Code)} {cn : Str} {cs : Scope} {a : Addr} {ccd : Value} {cl : List (Str × Addr)} {outer : List Env} {A₀ : Around} {base h₀ : Heap} {L : Addr} {m : Str → Option Value} {news : List (Addr × Obj)} {s : Shared}
    {Q E : Value → Shared → Prop} {v mo : Int} {tv tm : Tok} {st : Bool}
    (B : Below A₀ base outer h₀) (F : Fr h₀ L s.heap m) (X : (hd.heap_39 w.params).In h₀)
    (N : News h₀ L s.heap news) (T : Top p loose mean mg mb h₀) (hcs : cs.kind = .function) (hdp : dp + 5 < recursionLimit)
    (ret : ∀ h' tk' x dx t, AllLt dx news → @LT.lt Nat _ dx x → Fr h₀ L h' m → News h₀ L h' ((x, instObj 136 dx) :: (dx, wantO w ⟨v, mo, st, false⟩ t 4) :: news) → Q (.ref x) { s with heap := h', toks := tk' }) :
    wpAny (model prog w) (ktrTop dp un gd cn cs L a ccd cl outer) (call (.ref 136) [.int v tv, .int mo tm, .bool st]) Q E s := by
  k_dflt (refine' call_cls ?k1 ?k2 ?k3 ?k4 ?k5 ?k6 ?_; (case k1 => k_asm); (case k2 => k_asm); (case k3 => k_asm); (case k4 => k_is); (case k5 => k_is); (case k6 => k_is); k_whole; intro x' d' h' F' N' l1 l2; (try k_lt l1); (try k_lt2 l2); (refine' code_def ?k1 ?k2 ?k3 ?k4 ?k5 ?kA ?kF ?kK ?k6 ?k7 ?k8 ?k9 ?kB ?_ ?c2 ?c3 ?c4 ?c5; (case kA => exact rfl); (case kF => exact rfl); (case kK => assumption); (case k1 => k_asm); (case k2 => k_asm); (case k3 => k_asm); (case k4 => k_asm); (case k5 => k_asm); (case k6 => k_is); (case k7 => k_is); (case k8 => ktr_room); (case k9 => exact binds_K (by k_in) rfl (by k_is) rfl rfl rfl); (case c5 => decide); (case kB => exact locs rfl); (case c2 => exact rfl); (case c3 => exact rfl); (case c4 => exact rfl); k_whole; intro g' L' h' FG' F' N' B' X' T'; (try dsimp only); (try k_fold)))
  k_steps
  refine ret _ _ _ _ (tf6 _ _ _ _ _ _) (allLt_of (by assumption)) (by assumption) (by assumption) (by assumption)
theorem add_top {prog : Program} {w : World} {A : Around} {E : Value → Shared → Prop} {s : Shared} {h₀ : Heap} {L : Addr} {m : Str → Option Value} {news : List (Addr × Obj)} {K : Frag} {t b : Addr} {vs us : List Value} {dd dd2 : Option Addr} {n n2 : Nat} {sl sl2 : Array (Option Value)} {Q : Value → Shared → Prop}
    (F : Fr h₀ L s.heap m) (N : News h₀ L s.heap news) (X : K.In h₀) (l1 : K.lookup t = some ⟨.type "tuple", dd, .seq vs.toArray n, sl⟩) (l2 : K.lookup b = some ⟨.type "tuple", dd2, .seq us.toArray n2, sl2⟩) (hv : vs ≠ []) (hu : us ≠ []) (hsz : vs.length + us.length ≤ 1000)
    (h : ∀ D h', Fr h₀ L h' m → News h₀ L h' ((D, { cls := .type "tuple", data := .seq (vs ++ us).toArray }) :: news) → (∀ p ∈ news, p.1 < D) → Q (.ref D) { s with heap := h' }) :
    wpAny (model prog w) A (binaryOp .Add (.ref t) (.ref b)) Q E s :=
  add_tuples F N ⟨_, F.keep _ _ (X _ _ l1), rfl, _, rfl⟩ ⟨_, F.keep _ _ (X _ _ l2), rfl, _, rfl⟩ (fun e => absurd e hv) (fun _ e => absurd e hu) (fun _ _ h' F' N' => h _ h' F' N' fun p hp => Heap.lt_size (N p hp).1) (by rw [PySem.sizeLine_eq]; omega)

set_option hygiene false in
local macro_rules | `(tactic| walk_at "exec For Name Name cons nil") => `(tactic| (k_here; (rename Fr _ _ _ _ => lF'Z); (with_unfolding_all refine' For_invVF lF'Z rfl rfl ?_ (by intro _; rfl) (by first | passes_own | assumption))))
section
set_option hygiene false in
local macro_rules | `(tactic| walk_at "exec For Name BinOp cons nil") => `(tactic| (k_here; (rename Fr _ _ _ _ => lF'Z); (with_unfolding_all refine' For_invVF lF'Z rfl rfl ?_ (by intro _; rfl) (by first | passes_own | assumption))))
set_option hygiene false in
local macro_rules | `(tactic| walk_at "binaryOp Add") => `(tactic| (k_here; (with_reducible show wpAny _ _ (binaryOp _ (Value.ref _) (Value.ref _)) _ _ _); k_dflt (refine' add_top (by k_asm) (by k_asm) (by k_asm) (by k_is) (by k_is) (List.cons_ne_nil _ _) (List.cons_ne_nil _ _) (Nat.le_of_ble_eq_true rfl) ?_); intro D'Z h'Z F'Z N'Z l1Z; (try k_lt l1Z); (try k_sweep)))

theorem in_top {prog : Program} {w : World} {A : Around} {E : Value → Shared → Prop} {s : Shared} {h₀ : Heap} {L : Addr} {m : Str → Option Value} {K : Frag} {t : Addr} {vs : List Value} {dd : Option Addr} {n : Nat} {sl : Array (Option Value)} {x : Str} {u : Tok} {Q : Value → Shared → Prop}
    (F : Fr h₀ L s.heap m) (X : K.In h₀) (l1 : K.lookup t = some ⟨.type "tuple", dd, .seq vs.toArray n, sl⟩) (hs : StrsAre vs (vs.map strOf)) (b : Bool) (hb : (vs.map strOf).any (· == x) = b) (h : Q (.bool b) s) :
    wpAny (model prog w) A (compareOp .In (.str x u) (.ref t)) Q E s :=
  in_tuple_strs (ys := vs.map strOf) ⟨_, F.keep _ _ (X _ _ l1), rfl, _, rfl⟩ (by simpa using hs) (by rw [hb]; exact h)
set_option hygiene false in
local macro_rules | `(tactic| walk_at "compareOp In str ref") => `(tactic| (k_here; k_dflt (first
  | (refine' in_top (by k_asm) (by k_asm) (by k_is) (StrsAre.cons _ _ .nil) true (by decide) ?_)
  | (refine' in_top (by k_asm) (by k_asm) (by k_is) (StrsAre.cons _ _ .nil) false (by decide) ?_))))

/-- the found wants, at the ledger's head -/
inductive FI (prog : Program) (w : World) (news : List (Addr × Obj)) (d : Addr) (ws : List WE) (nx : List (Addr × Obj)) : Prop
  | mk (od : Obj) (R : List (Addr × Obj)) : nx = (d, od) :: R → od.IsDictOf (PySem.strKind prog w) (ws.map fun e => (e.k, Value.ref e.a)) → (∀ e ∈ ws, (e.a, instObj 136 e.ad) ∈ R ∧ ∃ t, (e.ad, wantO w e.x t 4) ∈ R) → (∀ p ∈ R, p.1 ≠ d) → (ws.map (·.ad)).Nodup →
    (∀ p ∈ news, p ∈ R) → (∀ p ∈ R, p ∈ news ∨ ∀ q ∈ news, q.1 < p.1) → (∀ e ∈ ws, ∀ q ∈ news, q.1 < e.ad) → FI prog w news d ws nx
def kx (ws : List WE) : List (Str × WD) := ws.map fun e => (e.k, e.x)
def strsOf (vs : List Value) : List Str := vs.map strOf
def fwJ (prog : Program) (w : World) (news kp : List (Addr × Obj)) (d : Addr) (T1 : List (Str × WD)) (x0 : WD) (vs : List Value) (sc : Str) (tt : Tok) (b : Bool) (i : Nat) (m : Str → Option Value) (nx : List (Addr × Obj)) : Prop :=
  (∃ ws, FI prog w news d ws nx ∧ kx ws = T1 ++ (strsOf (vs.take i)).map (fun t => (t, x0))) ∧ (∀ p ∈ kp, p ∈ nx) ∧ m (Str.ofString "found") = some (.ref d) ∧ m (Str.ofString "script") = some (.str sc tt) ∧ m (Str.ofString "is_backward") = some (.bool b)


def allStr (vs : List Value) : Bool := vs.all fun v => match v with | .str _ _ => true | _ => false
theorem strsAre_of {vs : List Value} (h : allStr vs = true) : StrsAre vs (strsOf vs) := by
  refine strsAre_map vs fun v hv => ?_
  have := List.all_eq_true.mp h v hv
  split at this
  · exact ⟨_, _, rfl⟩
  · cases this

section
variable {prog : Program} {w : World} {A : Around} {E : Value → Shared → Prop} {s : Shared} {env : Env} {h₀ : Heap} {x : Str} {body : List Stmt} {Q : Flow → Shared → Prop}
theorem fw_loop {news kp : List (Addr × Obj)} {d l : Addr} {lo od₀ : Obj} {R₀ : List (Addr × Obj)} {vs : List Value} {m₀ : Str → Option Value} {ws₀ : List WE} (x0 : WD) {sc : Str} {tt : Tok} {b : Bool}
    (hh : A.handled = none) (F : Fr h₀ env.locals s.heap m₀) (N : News h₀ env.locals s.heap ((d, od₀) :: R₀)) (hF : FI prog w news d ws₀ ((d, od₀) :: R₀)) (ht : IsTup s.heap l vs.toArray) (hs : allStr vs = true) (hl : (∃ o, h₀.get? l = some o) ∨ (l, lo) ∈ kp) (hkp : ∀ p ∈ kp, p ∈ R₀) (hkd : ∀ p ∈ kp, p.1 ≠ d) (hlL : l ≠ env.locals)
    (hK : Knows m₀ [(Str.ofString "found", .ref d), (Str.ofString "script", .str sc tt), (Str.ofString "is_backward", .bool b)]) (hlen : ws₀.length + vs.length ≤ 900) (hnd : (strsOf vs).Nodup) (hfr : ∀ t ∈ strsOf vs, t ∉ ws₀.map (·.k))
    (turn : ∀ i t tk' ws od R (u : Str → Option Value) h tk I io, (ws.map fun e => (e.k, Value.ref e.a)).length ≤ 1000 → t ∉ ws.map (·.k) → FI prog w news d ws ((d, od) :: R) → kx ws = kx ws₀ ++ (strsOf (vs.take i)).map (fun t => (t, x0)) → kx ws ++ [(t, x0)] = kx ws₀ ++ (strsOf (vs.take (i + 1))).map (fun t => (t, x0)) → (∀ p ∈ kp, p ∈ R) → (∀ p ∈ (d, od) :: R, p.1 ≠ I) →
      Fr h₀ env.locals h (fun y => if y = x then some (.str t tk') else if y = Str.ofString "found" then some (.ref d) else if y = Str.ofString "script" then some (.str sc tt) else if y = Str.ofString "is_backward" then some (.bool b) else u y) → News h₀ env.locals h ((I, io) :: (d, od) :: R) →
      wpAny (model prog w) A (execs body env) (TurnP h₀ env.locals I io (fwJ prog w news kp d (kx ws₀) x0 vs sc tt b (i + 1)) { s with heap := h, toks := tk } Q) E { s with heap := h, toks := tk })
    (done : ∀ ws od R (u : Str → Option Value) h tk, (ws.map fun e => (e.k, Value.ref e.a)).length ≤ 1000 → FI prog w news d ws ((d, od) :: R) → kx ws = kx ws₀ ++ (strsOf vs).map (fun t => (t, x0)) → Fr h₀ env.locals h (fun y => if y = Str.ofString "found" then some (.ref d) else if y = Str.ofString "script" then some (.str sc tt) else if y = Str.ofString "is_backward" then some (.bool b) else u y) →
      News h₀ env.locals h ((d, od) :: R) → Q .next { s with heap := h, toks := tk }) :
    wpAny (model prog w) A (pyIter (.ref l)) (fun it s₂ => LoopAtV prog w A h₀ env x body Q E it s₂) E s := by
  have hSS := strsAre_of hs
  refine iter_tup (lo := lo) (fwJ prog w news kp d (kx ws₀) x0 vs sc tt b) hh F N ht hlL ⟨⟨ws₀, hF, by simp [strsOf]⟩, fun p hp => .tail _ (hkp p hp), hK.1, hK.2.1, hK.2.2.1⟩ ?_ ?_ ?_
  · rintro i m nx ⟨-, h1, -⟩
    rcases hl with h | h
    · exact .inl h
    · exact .inr (h1 _ h)
  · rintro i v m₁ news₁ h tk I io hv ⟨⟨ws, hFI, hkx⟩, hk0, k1, k2, k3⟩ hI F₁ N₁
    obtain ⟨t, tk', rfl, hst⟩ := strsAre_get hSS hv
    obtain ⟨od, R, rfl, r⟩ := id hFI
    have F4 := fr_knownX F₁ [(_, _), (_, _), (_, _)] ⟨k1, k2, k3, trivial⟩
    simp only [known] at F4
    have htk : strsOf (vs.take i) = (strsOf vs).take i := by unfold strsOf; rw [List.map_take]
    have htk1 : strsOf (vs.take (i + 1)) = (strsOf vs).take i ++ [t] := by
      have : strsOf (vs.take (i + 1)) = (strsOf vs).take (i + 1) := by unfold strsOf; rw [List.map_take]
      rw [this, List.take_add_one, hst]; rfl
    have hkR : ∀ p ∈ kp, p ∈ R := by
      intro p hp
      rcases List.mem_cons.mp (hk0 p hp) with e | e
      · exact absurd (congrArg Prod.fst e) (hkd p hp)
      · exact e
    refine turn i t tk' ws od R m₁ h tk I io ?_ ?_ hFI hkx ?_ hkR hI F4 N₁
    · have h1 := congrArg List.length hkx
      simp only [kx, strsOf, List.length_map, List.length_append, List.length_take] at h1
      rw [List.length_map]
      have : i < vs.length := (List.getElem?_eq_some_iff.mp hv).1
      omega
    · intro hm
      have e : ws.map (·.k) = (kx ws).map (·.1) := by simp [kx]
      rw [e, hkx, List.map_append] at hm
      rcases List.mem_append.mp hm with hm | hm
      · refine hfr t (List.mem_of_getElem? hst) ?_
        simpa [kx] using hm
      · rw [htk] at hm
        exact not_mem_take hnd hst (by simpa [Function.comp_def] using hm)
    · rw [hkx, htk, htk1]; simp
  · rintro m₁ news₁ h tk ⟨⟨ws, hFI, hkx⟩, hk0, k1, k2, k3⟩ F₁ N₁
    obtain ⟨od, R, rfl, r⟩ := id hFI
    have F4 := fr_known F₁ [(_, _), (_, _), (_, _)] ⟨k1, k2, k3, trivial⟩
    simp only [known] at F4
    rw [List.take_length] at hkx
    refine done ws od R m₁ h tk ?_ hFI hkx F4 N₁
    have h1 := congrArg List.length hkx
    simp only [kx, strsOf, List.length_map, List.length_append] at h1
    rw [List.length_map]
    omega
end
theorem FI_snoc {prog : Program} {w : World} {news R : List (Addr × Obj)} {d x dx : Addr} {ws : List WE} {od od' : Obj} {t : Str} (x0 : WD) {tf : Nat → Tok} (hFI : FI prog w news d ws ((d, od) :: R))
    (hd' : od'.IsDictOf (PySem.strKind prog w) (stored (ws.map fun e => (e.k, Value.ref e.a)) t (.ref x))) (ht : t ∉ ws.map (·.k)) (hl : d < dx ∧ AllLt dx R) (hx : dx < x) :
    FI prog w news d (ws ++ [⟨t, x, dx, x0⟩]) ((d, od') :: (x, instObj 136 dx) :: (dx, wantO w x0 tf 4) :: R) := by
  obtain ⟨od₁, R₁, e, f1, f2, f3, f4, f5, f6, f7⟩ := hFI
  cases e
  have hR : ∀ p ∈ R, p.1 < dx := lt_of_allLt hl.2
  rw [stored_new (by simpa using ht)] at hd'
  refine ⟨od', _, rfl, by simpa using hd', ?_, ?_, ?_, ?_, ?_, ?_⟩
  · intro e he
    rcases List.mem_append.mp he with he | he
    · obtain ⟨a1, t1, a2⟩ := f2 e he
      exact ⟨.tail _ (.tail _ a1), t1, .tail _ (.tail _ a2)⟩
    · rw [List.mem_singleton.mp he]
      exact ⟨.head _, tf, .tail _ (.head _)⟩
  · intro p hp
    rcases List.mem_cons.mp hp with rfl | hp
    · exact Nat.ne_of_gt (Nat.lt_trans hl.1 hx)
    · rcases List.mem_cons.mp hp with rfl | hp
      · exact Nat.ne_of_gt hl.1
      · exact f3 p hp
  · rw [List.map_append, List.nodup_append]
    refine ⟨f4, by simp, ?_⟩
    intro a ha b hb
    simp at hb
    obtain ⟨e, he, rfl⟩ := List.mem_map.mp ha
    obtain ⟨_, _, a2⟩ := f2 e he
    rw [hb]
    exact Nat.ne_of_lt (hR _ a2)
  · exact fun p hp => .tail _ (.tail _ (f5 p hp))
  · intro p hp
    rcases List.mem_cons.mp hp with rfl | hp
    · exact .inr fun q hq => Nat.lt_trans (hR q (f5 q hq)) hx
    · rcases List.mem_cons.mp hp with rfl | hp
      · exact .inr fun q hq => hR q (f5 q hq)
      · exact f6 p hp
  · intro e he q hq
    rcases List.mem_append.mp he with he | he
    · exact f7 e he q hq
    · rw [List.mem_singleton.mp he]
      exact hR q (f5 q hq)

theorem fw_end {prog : Program} {w : World} {g h' : Heap} {L I d x dx : Addr} {io od od' : Obj} {M : Str → Option Value} {news kp R : List (Addr × Obj)} {ws : List WE} {T1 : List (Str × WD)} {x0 : WD} {vs : List Value} {sc : Str} {tt : Tok} {b : Bool} {i : Nat} {t : Str} {tf : Nat → Tok} {s₁ : Shared} {tk : Nat}
    (F : Fr g L h' M) (N : News g L h' ((x, instObj 136 dx) :: (dx, wantO w x0 tf 4) :: (I, io) :: (d, od') :: R)) (hl : I < dx ∧ d < dx ∧ AllLt dx R) (hx : dx < x)
    (hd' : od'.IsDictOf (PySem.strKind prog w) (stored (ws.map fun e => (e.k, Value.ref e.a)) t (.ref x))) (hFI : FI prog w news d ws ((d, od) :: R)) (ht : t ∉ ws.map (·.k))
    (hk2 : kx ws ++ [(t, x0)] = T1 ++ (strsOf (vs.take (i + 1))).map (fun t => (t, x0))) (hkR : ∀ p ∈ kp, p ∈ R) (hI : ∀ p ∈ (d, od) :: R, p.1 ≠ I)
    (m1 : M (Str.ofString "found") = some (.ref d)) (m2 : M (Str.ofString "script") = some (.str sc tt)) (m3 : M (Str.ofString "is_backward") = some (.bool b)) :
    TurnE g L I io (fwJ prog w news kp d T1 x0 vs sc tt b (i + 1)) s₁ { s₁ with heap := h', toks := tk } := by
  refine ⟨h', tk, M, _, rfl, F, N, .tail _ (.tail _ (.head _)), _, ?_, ?_, ⟨ws ++ [⟨t, x, dx, x0⟩], FI_snoc x0 (tf := tf) hFI hd' ht hl.2 hx, ?_⟩, ?_, m1, m2, m3⟩
  · intro p hp
    rcases List.mem_cons.mp hp with rfl | hp
    · exact .tail _ (.tail _ (.tail _ (.head _)))
    · rcases List.mem_cons.mp hp with rfl | hp
      · exact .head _
      · rcases List.mem_cons.mp hp with rfl | hp
        · exact .tail _ (.head _)
        · exact .tail _ (.tail _ (.tail _ (.tail _ hp)))
  · intro p hp
    rcases List.mem_cons.mp hp with rfl | hp
    · exact hI (d, od) (.head _)
    · rcases List.mem_cons.mp hp with rfl | hp
      · exact Nat.ne_of_gt (Nat.lt_trans hl.1 hx)
      · rcases List.mem_cons.mp hp with rfl | hp
        · exact Nat.ne_of_gt hl.1
        · exact hI p (.tail _ hp)
  · rw [← hk2]; simp [kx]
  · exact fun p hp => .tail _ (.tail _ (.tail _ (hkR p hp)))

inductive FMore (prog : Program) (w : World) (g h' : Heap) (L d : Addr) (od' : Obj) (news : List (Addr × Obj)) (ws : List WE) (t : Str) (x0 : WD) : Prop
  | mk (ws' : List WE) (R' : List (Addr × Obj)) : kx ws' = kx ws ++ [(t, x0)] → ws'.length = ws.length + 1 → FI prog w news d ws' ((d, od') :: R') → News g L h' ((d, od') :: R') → FMore prog w g h' L d od' news ws t x0
theorem FI_more {prog : Program} {w : World} {g h' : Heap} {L d x dx : Addr} {od od' : Obj} {news R : List (Addr × Obj)} {ws : List WE} {x0 : WD} {t : Str} {tf : Nat → Tok}
    (N : News g L h' ((x, instObj 136 dx) :: (dx, wantO w x0 tf 4) :: (d, od') :: R)) (hl : d < dx ∧ AllLt dx R) (hx : dx < x)
    (hd' : od'.IsDictOf (PySem.strKind prog w) (stored (ws.map fun e => (e.k, Value.ref e.a)) t (.ref x))) (hFI : FI prog w news d ws ((d, od) :: R)) (ht : t ∉ ws.map (·.k)) :
    FMore prog w g h' L d od' news ws t x0 := by
  refine ⟨ws ++ [⟨t, x, dx, x0⟩], _, by simp [kx], by simp, FI_snoc x0 (tf := tf) hFI hd' ht hl hx, news_sub N ?_⟩
  intro p hp
  rcases List.mem_cons.mp hp with rfl | hp
  · exact .tail _ (.tail _ (.head _))
  · rcases List.mem_cons.mp hp with rfl | hp
    · exact .head _
    · rcases List.mem_cons.mp hp with rfl | hp
      · exact .tail _ (.head _)
      · exact .tail _ (.tail _ (.tail _ hp))

theorem top_tup {h₀ h : Heap} {L : Addr} {m : Str → Option Value} {K : Frag} {t : Addr} {vs : List Value} {dd : Option Addr} {n : Nat} {sl : Array (Option Value)} (F : Fr h₀ L h m) (X : K.In h₀) (l : K.lookup t = some ⟨.type "tuple", dd, .seq vs.toArray n, sl⟩) :
    IsTup h t vs.toArray ∧ (∃ o, h₀.get? t = some o) ∧ t ≠ L :=
  ⟨⟨_, F.keep _ _ (X _ _ l), rfl, _, rfl⟩, ⟨_, X _ _ l⟩, Nat.ne_of_lt (Nat.lt_of_lt_of_le (Heap.lt_size (X _ _ l)) F.above)⟩
def commonL : List Str := [Str.ofString "abvm", Str.ofString "blwm", Str.ofString "ccmp", Str.ofString "locl", Str.ofString "mark", Str.ofString "mkmk", Str.ofString "rlig", Str.ofString "calt", Str.ofString "clig", Str.ofString "curs", Str.ofString "dist", Str.ofString "kern", Str.ofString "liga", Str.ofString "rclt"]
def formsL : List Str := [Str.ofString "isol", Str.ofString "fina", Str.ofString "medi", Str.ofString "init"]
def firstT (ar b : Bool) : List (Str × WD) :=
  (commonL ++ (if b then [Str.ofString "rtla"] else [Str.ofString "ltra", Str.ofString "ltrm"])).map (fun t => (t, ⟨1, 1, false, false⟩)) ++
    (if b then [(Str.ofString "rtlm", ⟨0, 1, true, false⟩)] else []) ++ (if ar then formsL.map (fun t => (t, ⟨0, 1, true, false⟩)) else [])

set_option hygiene false in
local macro_rules | `(tactic| walk_at "call ref") => `(tactic| (k_here; (with_reducible first
  | (show wpAny _ _ (call (Value.ref 136) [Value.int _ _, Value.int _ _]) _ _ _; k_dflt (refine' want_spec (by k_asm) (by k_asm) (by k_asm) (by k_asm) (by k_asm) rfl (by first | assumption | ktr_room) ?_))
  | (show wpAny _ _ (call (Value.ref 136) [Value.int _ _, Value.int _ _, Value.bool _]) _ _ _; k_dflt (refine' want_spec3 (by k_asm) (by k_asm) (by k_asm) (by k_asm) (by k_asm) rfl (by first | assumption | ktr_room) ?_))); intro h'Z tk'Z x'Z dx'Z tf'Z l1'Z l2'Z F'Z N'Z; (try dsimp only [AllLt] at l1'Z)))

set_option maxHeartbeats 4000000 in
theorem first_spec {prog : Program} {w : World} {p : Program} {loose : List Str} {mean : ExcName → Option Value} {mg mb : Str → Option Value}
    {dp un : Nat} {gd : Option (List Code)} {cn : Str} {cs : Scope} {a : Addr} {ccd : Value} {cl : List (Str × Addr)} {outer : List Env} {A₀ : Around} {base h₀ : Heap} {L : Addr} {m : Str → Option Value} {news : List (Addr × Obj)} {s : Shared}
    {Q E : Value → Shared → Prop} {sc : Str} {tt : Tok} {b : Bool}
    (B : Below A₀ base outer h₀) (F : Fr h₀ L s.heap m) (X : (hd.heap_39 w.params).In h₀)
    (N : News h₀ L s.heap news) (hsc : sc = Str.ofString "arab" ∨ sc = Str.ofString "latn")
    (T : Top p loose mean mg mb h₀) (hcs : cs.kind = .function) (hdp : dp + 10 < recursionLimit)
    (ret : ∀ h' tk' d od R ws, kx ws = firstT (decide (sc = Str.ofString "arab")) b → FI prog w news d ws ((d, od) :: R) → Fr h₀ L h' m → News h₀ L h' ((d, od) :: R) → (d == sysModules) = false → (∀ p ∈ news, p.1 < d) → Q (.ref d) { s with heap := h', toks := tk' }) :
    wpAny (model prog w) (ktrTop dp un gd cn cs L a ccd cl outer) (call (.ref 147) [.str sc tt, .bool b]) Q E s := by
  refine wpAny_call ?_
  have hdp5 : dp + 1 + 5 < recursionLimit := by omega
  k_dflt ktr_enter
  k_with "pyIter ref" => (fail "stop here")
  k_steps
  all_goals (
    rename Obj.IsDictOf (PySem.strKind prog w) _ [] => hdm0
    rename ∀ p ∈ news, p.1 < _ => hlt0
    rename Fr _ _ _ _ => F1
    rename News _ _ _ _ => N1)
  · have N2 := news_sub N1 (b := (_, _) :: (_, _) :: news) (by
      intro p hp
      rcases List.mem_cons.mp hp with rfl | hp
      · exact .tail _ (.head _)
      · rcases List.mem_cons.mp hp with rfl | hp
        · exact .head _
        · exact .tail _ (.tail _ hp))
    rename b = true => hb
    subst hb
    refine' fw_loop (ws₀ := []) (news := news) (kp := [(_, _)]) ⟨1, 1, false, false⟩ ?hh1 ?F1 ?N1 ?hF1 ?ht1 ?hs1 ?hl1 ?hkp1 ?hkd1 ?hlL1 ?hK1 ?hlen1 ?hnd1 ?hfr1 ?turn1 ?done1
    case hh1 => rfl
    case F1 => exact F1
    case N1 => exact N2
    case ht1 => exact News.isTup N2 (.tail _ (.head _))
    case hs1 => rfl
    case hkp1 => intro p hp; rw [List.mem_singleton.mp hp]; exact .head _
    case hl1 => exact .inr (.head _)
    all_goals rename _ < _ ∧ AllLt _ news => hl1
    case hkd1 => intro p hp; rw [List.mem_singleton.mp hp]; exact Nat.ne_of_gt hl1.1
    case hlL1 => exact (N2 _ (.tail _ (.head _))).2.1
    case hK1 => exact ⟨by with_unfolding_all rfl, by with_unfolding_all rfl, by with_unfolding_all rfl, trivial⟩
    case hlen1 => exact Nat.le_of_ble_eq_true rfl
    case hnd1 => decide
    case hfr1 => intro t _ h; exact absurd h (by simp)
    case hF1 =>
      refine ⟨_, _, rfl, hdm0, fun e he => (nomatch he), ?_, .nil, fun p hp => .tail _ hp, ?_, fun e he => (nomatch he)⟩
      · intro p hp
        rcases List.mem_cons.mp hp with rfl | hp
        · exact Nat.ne_of_gt hl1.1
        · exact Nat.ne_of_lt (hlt0 p hp)
      · intro p hp
        rcases List.mem_cons.mp hp with rfl | hp
        · exact .inr fun q hq => lt_of_allLt hl1.2 q hq
        · exact .inl hp
    case turn1 =>
      intro i t tk' ws od R u h tk I io hkl ht hFI hk1 hk2 hkR hI F5 N5
      obtain ⟨od', R', e, f1, f2, f3, f4, f5, f6, f7⟩ := id hFI
      cases e
      have hIdm : I ≠ _ := Ne.symm (hI _ (.head _))
      have hIR : ∀ p ∈ R, p.1 ≠ I := fun p hp => hI p (.tail _ hp)
      k_steps
      show TurnE _ _ _ _ _ _ _
      refine fw_end (by assumption) (by assumption) (by assumption) (by assumption) (by assumption) hFI ht hk2 hkR hI (by with_unfolding_all rfl) (by with_unfolding_all rfl) (by with_unfolding_all rfl)
    case done1 =>
      intro ws od R u h tk hkl hFI hkx F5 N5
      obtain ⟨od', R', e, f1, f2, f3, f4, f5, f6, f7⟩ := id hFI
      cases e
      have hrt : Str.ofString "rtlm" ∉ ws.map (·.k) := by
        have e : ws.map (·.k) = (kx ws).map (·.1) := by simp [kx]
        rw [e, hkx]
        decide
      rcases hsc with rfl | rfl
      · k_steps
        rename Fr _ _ _ _ => F6
        rename News _ _ _ _ => N6
        rename Obj.IsDictOf (PySem.strKind prog w) _ (stored _ _ _) => hd6
        rename _ < _ ∧ AllLt _ R => hl6
        rename _ < _ => hx6
        obtain ⟨ws2, R2, hk6, hlen6, hFI2, N7⟩ := FI_more (x0 := ⟨0, 1, true, false⟩) N6 hl6 hx6 hd6 hFI hrt
        rw [hkx] at hk6
        refine' fw_loop (news := news) (kp := []) (lo := default) ⟨0, 1, true, false⟩ ?hh2 ?F2 ?N2 hFI2 ?ht2 ?hs2 ?hl2 ?hkp2 ?hkd2 ?hlL2 ?hK2 ?hlen2 ?hnd2 ?hfr2 ?turn2 ?done2
        case hh2 => rfl
        case F2 => exact F6
        case N2 => exact N7
        case ht2 => exact (top_tup F6 (by k_asm) (by k_is)).1
        case hs2 => rfl
        case hl2 => exact .inl (top_tup F6 (by k_asm) (by k_is)).2.1
        case hkp2 => intro p hp; nomatch hp
        case hkd2 => intro p hp; nomatch hp
        case hlL2 => exact (top_tup F6 (by k_asm) (by k_is)).2.2
        case hK2 => exact ⟨by with_unfolding_all rfl, by with_unfolding_all rfl, by with_unfolding_all rfl, trivial⟩
        case hlen2 =>
          have h9 := congrArg List.length hkx
          simp only [kx, strsOf, List.length_map, List.length_append] at h9
          simp only [List.length_cons, List.length_nil] at h9 ⊢
          omega
        case hnd2 => decide
        case hfr2 =>
          intro t ht
          rw [show (ws2).map (·.k) = (kx (ws2)).map (·.1) from by simp [kx], hk6]
          revert t
          decide
        case turn2 =>
          intro i t tk' ws9 od R9 u h tk I io hkl ht hFI hk1 hk2 hkR hI F5 N5
          obtain ⟨od', R', e, f1, f2, f3, f4, f5, f6, f7⟩ := id hFI
          cases e
          have hIdm : I ≠ _ := Ne.symm (hI _ (.head _))
          have hIR : ∀ p ∈ R9, p.1 ≠ I := fun p hp => hI p (.tail _ hp)
          k_steps
          show TurnE _ _ _ _ _ _ _
          refine fw_end (by assumption) (by assumption) (by assumption) (by assumption) (by assumption) hFI ht hk2 hkR hI (by with_unfolding_all rfl) (by with_unfolding_all rfl) (by with_unfolding_all rfl)
        case done2 =>
          intro ws9 od R9 u h tk hkl hFI hk9 F5 N5
          obtain ⟨od', R', e, f1, f2, f3, f4, f5, f6, f7⟩ := id hFI
          cases e
          k_steps
          rename Fr _ _ _ _ => F8
          rename News _ _ _ _ => N8
          rw [hk6] at hk9
          exact ret _ _ _ _ _ ws9 (hk9.trans (by with_unfolding_all rfl)) hFI F8 N8 (by assumption) hlt0
      · k_steps
        rename Fr _ _ _ _ => F6
        rename News _ _ _ _ => N6
        rename Obj.IsDictOf (PySem.strKind prog w) _ (stored _ _ _) => hd6
        rename _ < _ ∧ AllLt _ R => hl6
        rename _ < _ => hx6
        obtain ⟨ws2, R2, hk6, hlen6, hFI2, N7⟩ := FI_more (x0 := ⟨0, 1, true, false⟩) N6 hl6 hx6 hd6 hFI hrt
        rw [hkx] at hk6
        exact ret _ _ _ _ _ ws2 (hk6.trans (by with_unfolding_all rfl)) hFI2 F6 N7 (by assumption) hlt0
  · have N2 := news_sub N1 (b := (_, _) :: (_, _) :: news) (by
      intro p hp
      rcases List.mem_cons.mp hp with rfl | hp
      · exact .tail _ (.head _)
      · rcases List.mem_cons.mp hp with rfl | hp
        · exact .head _
        · exact .tail _ (.tail _ hp))
    rename b = false => hb
    subst hb
    refine' fw_loop (ws₀ := []) (news := news) (kp := [(_, _)]) ⟨1, 1, false, false⟩ ?hh3 ?F3 ?N3 ?hF3 ?ht3 ?hs3 ?hl3 ?hkp3 ?hkd3 ?hlL3 ?hK3 ?hlen3 ?hnd3 ?hfr3 ?turn3 ?done3
    case hh3 => rfl
    case F3 => exact F1
    case N3 => exact N2
    case ht3 => exact News.isTup N2 (.tail _ (.head _))
    case hs3 => rfl
    case hkp3 => intro p hp; rw [List.mem_singleton.mp hp]; exact .head _
    case hl3 => exact .inr (.head _)
    all_goals rename _ < _ ∧ AllLt _ news => hl1
    case hkd3 => intro p hp; rw [List.mem_singleton.mp hp]; exact Nat.ne_of_gt hl1.1
    case hlL3 => exact (N2 _ (.tail _ (.head _))).2.1
    case hK3 => exact ⟨by with_unfolding_all rfl, by with_unfolding_all rfl, by with_unfolding_all rfl, trivial⟩
    case hlen3 => exact Nat.le_of_ble_eq_true rfl
    case hnd3 => decide
    case hfr3 => intro t _ h; exact absurd h (by simp)
    case hF3 =>
      refine ⟨_, _, rfl, hdm0, fun e he => (nomatch he), ?_, .nil, fun p hp => .tail _ hp, ?_, fun e he => (nomatch he)⟩
      · intro p hp
        rcases List.mem_cons.mp hp with rfl | hp
        · exact Nat.ne_of_gt hl1.1
        · exact Nat.ne_of_lt (hlt0 p hp)
      · intro p hp
        rcases List.mem_cons.mp hp with rfl | hp
        · exact .inr fun q hq => lt_of_allLt hl1.2 q hq
        · exact .inl hp
    case turn3 =>
      intro i t tk' ws od R u h tk I io hkl ht hFI hk1 hk2 hkR hI F5 N5
      obtain ⟨od', R', e, f1, f2, f3, f4, f5, f6, f7⟩ := id hFI
      cases e
      have hIdm : I ≠ _ := Ne.symm (hI _ (.head _))
      have hIR : ∀ p ∈ R, p.1 ≠ I := fun p hp => hI p (.tail _ hp)
      k_steps
      show TurnE _ _ _ _ _ _ _
      refine fw_end (by assumption) (by assumption) (by assumption) (by assumption) (by assumption) hFI ht hk2 hkR hI (by with_unfolding_all rfl) (by with_unfolding_all rfl) (by with_unfolding_all rfl)
    case done3 =>
      intro ws od R u h tk hkl hFI hkx F5 N5
      obtain ⟨od', R', e, f1, f2, f3, f4, f5, f6, f7⟩ := id hFI
      cases e
      rcases hsc with rfl | rfl
      · k_steps
        rename Fr _ _ _ _ => F6
        rename News _ _ _ _ => N6
        have hFI2 := hFI
        have N7 := N6
        have hk6 := hkx
        refine' fw_loop (news := news) (kp := []) (lo := default) ⟨0, 1, true, false⟩ ?hh4 ?F4 ?N4 hFI2 ?ht4 ?hs4 ?hl4 ?hkp4 ?hkd4 ?hlL4 ?hK4 ?hlen4 ?hnd4 ?hfr4 ?turn4 ?done4
        case hh4 => rfl
        case F4 => exact F6
        case N4 => exact N7
        case ht4 => exact (top_tup F6 (by k_asm) (by k_is)).1
        case hs4 => rfl
        case hl4 => exact .inl (top_tup F6 (by k_asm) (by k_is)).2.1
        case hkp4 => intro p hp; nomatch hp
        case hkd4 => intro p hp; nomatch hp
        case hlL4 => exact (top_tup F6 (by k_asm) (by k_is)).2.2
        case hK4 => exact ⟨by with_unfolding_all rfl, by with_unfolding_all rfl, by with_unfolding_all rfl, trivial⟩
        case hlen4 =>
          have h9 := congrArg List.length hkx
          simp only [kx, strsOf, List.length_map, List.length_append] at h9
          simp only [List.length_cons, List.length_nil] at h9 ⊢
          omega
        case hnd4 => decide
        case hfr4 =>
          intro t ht
          rw [show (ws).map (·.k) = (kx (ws)).map (·.1) from by simp [kx], hk6]
          revert t
          decide
        case turn4 =>
          intro i t tk' ws9 od R9 u h tk I io hkl ht hFI hk1 hk2 hkR hI F5 N5
          obtain ⟨od', R', e, f1, f2, f3, f4, f5, f6, f7⟩ := id hFI
          cases e
          have hIdm : I ≠ _ := Ne.symm (hI _ (.head _))
          have hIR : ∀ p ∈ R9, p.1 ≠ I := fun p hp => hI p (.tail _ hp)
          k_steps
          show TurnE _ _ _ _ _ _ _
          refine fw_end (by assumption) (by assumption) (by assumption) (by assumption) (by assumption) hFI ht hk2 hkR hI (by with_unfolding_all rfl) (by with_unfolding_all rfl) (by with_unfolding_all rfl)
        case done4 =>
          intro ws9 od R9 u h tk hkl hFI hk9 F5 N5
          obtain ⟨od', R', e, f1, f2, f3, f4, f5, f6, f7⟩ := id hFI
          cases e
          k_steps
          rename Fr _ _ _ _ => F8
          rename News _ _ _ _ => N8
          rw [hk6] at hk9
          exact ret _ _ _ _ _ ws9 (hk9.trans (by with_unfolding_all rfl)) hFI F8 N8 (by assumption) hlt0
      · k_steps
        rename Fr _ _ _ _ => F6
        rename News _ _ _ _ => N6
        have hFI2 := hFI
        have N7 := N6
        have hk6 := hkx
        exact ret _ _ _ _ _ ws (hk6.trans (by with_unfolding_all rfl)) hFI2 F6 N7 (by assumption) hlt0
end
/-- what a Wish says -/
structure WI where
  tag : Str
  v : Int
  bg : Int
  en : Int
def WI.whole (x : WI) : Bool := decide (x.bg = 0) && decide (x.en = -1)
abbrev wishO (w : World) (x : WI) (t : Nat → Tok) (n : Nat) : Obj :=
  dictOf [⟨PyData.keyHash w.params (Str.ofString "tag"), .str (Str.ofString "tag") (t 0), .str x.tag (t 1)⟩,
          ⟨PyData.keyHash w.params (Str.ofString "value"), .str (Str.ofString "value") (t 2), .int x.v (t 3)⟩,
          ⟨PyData.keyHash w.params (Str.ofString "begin"), .str (Str.ofString "begin") (t 4), .int x.bg (t 5)⟩,
          ⟨PyData.keyHash w.params (Str.ofString "end"), .str (Str.ofString "end") (t 6), .int x.en (t 7)⟩] n
inductive WishesAre (w : World) (news : List (Addr × Obj)) : List Value → List WI → Prop
  | nil : WishesAre w news [] []
  | cons {a ad : Addr} {x : WI} {t : Nat → Tok} {n : Nat} {vs : List Value} {xs : List WI} : (a, instObj 100 ad) ∈ news → (ad, wishO w x t n) ∈ news → WishesAre w news vs xs → WishesAre w news (.ref a :: vs) (x :: xs)
theorem WishesAre.length {w : World} {news : List (Addr × Obj)} {vs : List Value} {xs : List WI} (h : WishesAre w news vs xs) : vs.length = xs.length := by
  induction h with
  | nil => rfl
  | cons _ _ _ ih => simp [ih]
inductive WGet (w : World) (news : List (Addr × Obj)) (v : Value) (xi : Option WI) : Prop
  | mk (a ad : Addr) (x : WI) (t : Nat → Tok) (n : Nat) : v = .ref a → xi = some x → (a, instObj 100 ad) ∈ news → (ad, wishO w x t n) ∈ news → WGet w news v xi
theorem WishesAre.get {w : World} {news : List (Addr × Obj)} {vs : List Value} {xs : List WI} (h : WishesAre w news vs xs) : ∀ {i : Nat} {v : Value}, vs[i]? = some v → WGet w news v xs[i]? := by
  induction h with
  | nil => intro i v hv; simp at hv
  | cons h1 h2 _ ih =>
    intro i v hv
    cases i with
    | zero => simp at hv; exact ⟨_, _, _, _, _, hv.symm, rfl, h1, h2⟩
    | succ i => simpa using ih (by simpa using hv)
theorem WishesAre.mono {w : World} {news news' : List (Addr × Obj)} {vs : List Value} {xs : List WI} (h : WishesAre w news vs xs) (hs : ∀ p ∈ news, p ∈ news') : WishesAre w news' vs xs := by
  induction h with
  | nil => exact .nil
  | cons h1 h2 _ ih => exact .cons (hs _ h1) (hs _ h2) ih
section
set_option hygiene false in
local macro_rules | `(tactic| walk_at "exec Raise some none") => `(tactic| (exfalso; first | omega | simp_all))

theorem none_ret {h₀ : Heap} {L : Addr} {m : Str → Option Value} {news : List (Addr × Obj)} {s : Shared} {Q : Value → Shared → Prop} (ret : ∀ h' tk', Fr h₀ L h' m → News h₀ L h' news → Q .none { s with heap := h', toks := tk' })
    {h' : Heap} {tk' : Nat} (F : Fr h₀ L h' m) (N : News h₀ L h' news) : Q .none { s with heap := h', toks := tk' } := ret h' tk' F N
set_option maxHeartbeats 4000000 in
theorem check_spec {prog : Program} {w : World} {p : Program} {loose : List Str} {mean : ExcName → Option Value} {mg mb : Str → Option Value}
    {dp un : Nat} {gd : Option (List Code)} {cn : Str} {cs : Scope} {a : Addr} {ccd : Value} {cl : List (Str × Addr)} {outer : List Env} {A₀ : Around} {base h₀ : Heap} {L : Addr} {m : Str → Option Value} {news : List (Addr × Obj)} {s : Shared}
    {Q E : Value → Shared → Prop} {wa wd : Addr} {x : WI} {t : Nat → Tok} {n : Nat}
    (B : Below A₀ base outer h₀) (F : Fr h₀ L s.heap m) (X : (hd.heap_39 w.params).In h₀)
    (N : News h₀ L s.heap news) (h1 : (wa, instObj 100 wd) ∈ news) (h2 : (wd, wishO w x t n) ∈ news) (ht : (x.tag.length : Int) = 4) (hv : 0 ≤ x.v) (hv2 : x.v ≤ 9)
    (T : Top p loose mean mg mb h₀) (hcs : cs.kind = .function) (hdp : dp + 5 < recursionLimit)
    (ret : ∀ h' tk', Fr h₀ L h' m → News h₀ L h' news → Q .none { s with heap := h', toks := tk' }) :
    wpAny (model prog w) (ktrTop dp un gd cn cs L a ccd cl outer) (call (.ref 111) [.ref wa]) Q E s := by
  refine wpAny_call ?_
  k_dflt ktr_enter
  k_steps
  all_goals first | exact none_ret ret (by assumption) (by assumption) | (exfalso; omega)
set_option maxHeartbeats 4000000 in
theorem whole_spec {prog : Program} {w : World} {p : Program} {loose : List Str} {mean : ExcName → Option Value} {mg mb : Str → Option Value}
    {dp un : Nat} {gd : Option (List Code)} {cn : Str} {cs : Scope} {a : Addr} {ccd : Value} {cl : List (Str × Addr)} {outer : List Env} {A₀ : Around} {base h₀ : Heap} {L : Addr} {m : Str → Option Value} {news : List (Addr × Obj)} {s : Shared}
    {Q E : Value → Shared → Prop} {wa wd : Addr} {x : WI} {t : Nat → Tok} {n : Nat}
    (B : Below A₀ base outer h₀) (F : Fr h₀ L s.heap m) (X : (hd.heap_39 w.params).In h₀)
    (N : News h₀ L s.heap news) (h1 : (wa, instObj 100 wd) ∈ news) (h2 : (wd, wishO w x t n) ∈ news)
    (T : Top p loose mean mg mb h₀) (hcs : cs.kind = .function) (hdp : dp + 5 < recursionLimit)
    (ret : ∀ h' tk', Fr h₀ L h' m → News h₀ L h' news → Q (.bool x.whole) { s with heap := h', toks := tk' }) :
    wpAny (model prog w) (ktrTop dp un gd cn cs L a ccd cl outer) (call (.ref 97) [.ref wa]) Q E s := by
  refine wpAny_call ?_
  k_dflt ktr_enter
  k_steps
  all_goals (refine own_ret ret ?_ (by assumption) (by assumption); simp [WI.whole, *] <;> rfl)
def tf8 (a b c d e f g h : Tok) : Nat → Tok
  | 0 => a | 1 => b | 2 => c | 3 => d | 4 => e | 5 => f | 6 => g | _ => h
set_option maxHeartbeats 4000000 in
theorem wish_spec {prog : Program} {w : World} {p : Program} {loose : List Str} {mean : ExcName → Option Value} {mg mb : Str → Option Value}
    {dp un : Nat} {gd : Option (List Code)} {cn : Str} {cs : Scope} {a : Addr} {ccd : Value} {cl : List (Str × Addr)} {outer : List Env} {A₀ : Around} {base h₀ : Heap} {L : Addr} {m : Str → Option Value} {news : List (Addr × Obj)} {s : Shared}
    {Q E : Value → Shared → Prop} {tag : Str} {v bg en : Int} {tt tv tb te : Tok}
    (B : Below A₀ base outer h₀) (F : Fr h₀ L s.heap m) (X : (hd.heap_39 w.params).In h₀)
    (N : News h₀ L s.heap news) (T : Top p loose mean mg mb h₀) (hcs : cs.kind = .function) (hdp : dp + 5 < recursionLimit)
    (ret : ∀ h' tk' x dx t, AllLt dx news → @LT.lt Nat _ dx x → Fr h₀ L h' m → News h₀ L h' ((x, instObj 100 dx) :: (dx, wishO w ⟨tag, v, bg, en⟩ t 4) :: news) → Q (.ref x) { s with heap := h', toks := tk' }) :
    wpAny (model prog w) (ktrTop dp un gd cn cs L a ccd cl outer) (call (.ref 100) [.str tag tt, .int v tv, .int bg tb, .int en te]) Q E s := by
  k_dflt (refine' call_cls ?k1 ?k2 ?k3 ?k4 ?k5 ?k6 ?_; (case k1 => k_asm); (case k2 => k_asm); (case k3 => k_asm); (case k4 => k_is); (case k5 => k_is); (case k6 => k_is); k_whole; intro x' d' h' F' N' l1 l2; (try k_lt l1); (try k_lt2 l2); (refine' code_def ?k1 ?k2 ?k3 ?k4 ?k5 ?kA ?kF ?kK ?k6 ?k7 ?k8 ?k9 ?kB ?_ ?c2 ?c3 ?c4 ?c5; (case kA => exact rfl); (case kF => exact rfl); (case kK => assumption); (case k1 => k_asm); (case k2 => k_asm); (case k3 => k_asm); (case k4 => k_asm); (case k5 => k_asm); (case k6 => k_is); (case k7 => k_is); (case k8 => ktr_room); (case k9 => exact binds_K (by k_in) rfl (by k_is) rfl rfl rfl); (case c5 => decide); (case kB => exact locs rfl); (case c2 => exact rfl); (case c3 => exact rfl); (case c4 => exact rfl); k_whole; intro g' L' h' FG' F' N' B' X' T'; (try dsimp only); (try k_fold)))
  k_steps
  refine ret _ _ _ _ (tf8 _ _ _ _ _ _ _ _) (allLt_of (by assumption)) (by assumption) (by assumption) (by assumption)
end
def WD.wish (x : WD) (i : WI) : WD := if i.whole then ⟨i.v, if i.v > x.m then i.v else x.m, false, x.p⟩ else ⟨x.v, if i.v > x.m then i.v else x.m, x.s, true⟩
def lookT (T : List (Str × WD)) (k : Str) : Option WD := (T.find? (fun p => decide (p.1 = k))).map (·.2)
def putT (T : List (Str × WD)) (k : Str) (x : WD) : List (Str × WD) := if k ∈ T.map (·.1) then T.map (fun p => if p.1 = k then (k, x) else p) else T ++ [(k, x)]
def applyW (T : List (Str × WD)) (i : WI) : List (Str × WD) := putT T i.tag (((lookT T i.tag).getD ⟨0, 0, false, false⟩).wish i)

def updE (ws : List WE) (k : Str) (x : WD) : List WE := ws.map fun e => if e.k = k then { e with x := x } else e

theorem nodup_inj {α β : Type} {f : α → β} {l : List α} (h : (l.map f).Nodup) {a b : α} (ha : a ∈ l) (hb : b ∈ l) (e : f a = f b) : a = b := by
  induction l with
  | nil => cases ha
  | cons x l ih =>
    rw [List.map_cons, List.nodup_cons] at h
    rcases List.mem_cons.mp ha with rfl | ha' <;> rcases List.mem_cons.mp hb with rfl | hb'
    · rfl
    · exact absurd (List.mem_map.mpr ⟨_, hb', e.symm⟩) h.1
    · exact absurd (List.mem_map.mpr ⟨_, ha', e⟩) h.1
    · exact ih h.2 ha' hb'
inductive FRot (prog : Program) (w : World) (g h : Heap) (L I d : Addr) (io od : Obj) (news : List (Addr × Obj)) (ws : List WE) (en : WE) : Prop
  | mk (R' : List (Addr × Obj)) (t : Nat → Tok) : News g L h ((I, io) :: (d, od) :: (en.ad, wantO w en.x t 4) :: R') → (∀ p ∈ R', p.1 ≠ en.ad) → (en.a, instObj 136 en.ad) ∈ R' → d ≠ en.ad → I ≠ en.ad → (∀ p ∈ R', p.1 ≠ d) → (∀ p ∈ R', p.1 ≠ I) → (∀ p ∈ news, p ∈ R') →
      (∀ x' t', FI prog w news d (updE ws en.k x') ((d, od) :: (en.ad, wantO w x' t' 4) :: R')) → FRot prog w g h L I d io od news ws en
theorem FI_rot {prog : Program} {w : World} {g h : Heap} {L I d : Addr} {io od : Obj} {news R : List (Addr × Obj)} {ws : List WE} {en : WE} (hFI : FI prog w news d ws ((d, od) :: R)) (hen : lookW ws en.k = some en)
    (N : News g L h ((I, io) :: (d, od) :: R)) (hI : ∀ p ∈ (d, od) :: R, p.1 ≠ I) :
    FRot prog w g h L I d io od news ws en := by
  obtain ⟨od₁, R₁, e, f1, f2, f3, f4, f5, f6, f7⟩ := hFI
  cases e
  have hm := (lookW_mem hen).1
  obtain ⟨a1, t, a2⟩ := f2 en hm
  have key : ∀ p ∈ R, p.1 ≠ en.ad → p ∈ R.filter (fun p => decide (p.1 ≠ en.ad)) := fun p hp hne => by
    rw [List.mem_filter]; exact ⟨hp, by simpa using hne⟩
  have hda : ∀ e ∈ ws, e.a ≠ en.ad := by
    intro e he heq
    have b1 := (N _ (.tail _ (.tail _ (f2 e he).1))).1
    have b2 := (N _ (.tail _ (.tail _ a2))).1
    simp only at b1 b2
    rw [heq, b2] at b1
    have := Option.some.inj b1
    cases this
  have huniq : ∀ e ∈ ws, e.ad = en.ad → e = en := fun e he heq => nodup_inj (f := (·.ad)) f4 he hm heq
  have hkuniq : ∀ e ∈ ws, e.k = en.k → e = en := by
    obtain ⟨es, ep, _, _, _, _, hkn⟩ := f1
    rw [List.map_map] at hkn
    exact fun e he heq => nodup_inj (f := (·.k)) hkn he hm heq
  refine ⟨R.filter (fun p => decide (p.1 ≠ en.ad)), t, ?_, ?_, key _ a1 (hda en hm), (f3 _ a2).symm, (hI _ (.tail _ a2)).symm, ?_, ?_, ?_, ?_⟩
  · intro p hp
    rcases List.mem_cons.mp hp with rfl | hp
    · exact N _ (.head _)
    · rcases List.mem_cons.mp hp with rfl | hp
      · exact N _ (.tail _ (.head _))
      · rcases List.mem_cons.mp hp with rfl | hp
        · exact N _ (.tail _ (.tail _ a2))
        · exact N _ (.tail _ (.tail _ (List.mem_filter.mp hp).1))
  · intro p hp; simpa using (List.mem_filter.mp hp).2
  · intro p hp; exact f3 p (List.mem_filter.mp hp).1
  · intro p hp; exact hI p (.tail _ (List.mem_filter.mp hp).1)
  · intro p hp; exact key p (f5 p hp) (Nat.ne_of_lt (f7 en hm p hp))
  · intro x' t'
    refine ⟨od, _, rfl, ?_, ?_, ?_, ?_, ?_, ?_, ?_⟩
    · have : (updE ws en.k x').map (fun e => (e.k, Value.ref e.a)) = ws.map (fun e => (e.k, Value.ref e.a)) := by
        unfold updE
        rw [List.map_map]
        refine List.map_congr_left fun e he => ?_
        show ((if e.k = en.k then _ else e).k, Value.ref (if e.k = en.k then _ else e).a) = _
        split <;> rfl
      rw [this]; exact f1
    · intro e he
      obtain ⟨e0, he0, rfl⟩ := List.mem_map.mp he
      by_cases hk : e0.k = en.k
      · have e1 := hkuniq e0 he0 hk
        subst e1
        rw [if_pos hk]
        exact ⟨.tail _ (key _ a1 (hda _ hm)), t', .head _⟩
      · rw [if_neg hk]
        obtain ⟨b1, t1, b2⟩ := f2 e0 he0
        exact ⟨.tail _ (key _ b1 (hda _ he0)), t1, .tail _ (key _ b2 fun h => hk (by rw [huniq e0 he0 h]))⟩
    · intro p hp
      rcases List.mem_cons.mp hp with rfl | hp
      · exact f3 (en.ad, wantO w en.x t 4) a2
      · exact f3 p (List.mem_filter.mp hp).1
    · have : (updE ws en.k x').map (·.ad) = ws.map (·.ad) := by
        unfold updE
        rw [List.map_map]
        refine List.map_congr_left fun e he => ?_
        show (if e.k = en.k then _ else e).ad = _
        split <;> rfl
      rw [this]; exact f4
    · intro p hp; exact .tail _ (key p (f5 p hp) (Nat.ne_of_lt (f7 en hm p hp)))
    · intro p hp
      rcases List.mem_cons.mp hp with rfl | hp
      · exact .inr fun q hq => f7 en hm q hq
      · exact f6 p (List.mem_filter.mp hp).1
    · intro e he q hq
      obtain ⟨e0, he0, rfl⟩ := List.mem_map.mp he
      have := f7 e0 he0 q hq
      split <;> exact this

theorem kx_upd {ws : List WE} {en : WE} {x : WD} (hk : ∀ e ∈ ws, e.k = en.k → e = en) : kx (updE ws en.k x) = (kx ws).map (fun p => if p.1 = en.k then (en.k, x) else p) := by
  unfold kx updE
  rw [List.map_map, List.map_map]
  refine List.map_congr_left fun e he => ?_
  show ((if e.k = en.k then _ else e).k, (if e.k = en.k then _ else e).x) = if e.k = en.k then (en.k, x) else (e.k, e.x)
  split
  · rename_i h; simp [h]
  · rfl
theorem lookT_kx (ws : List WE) (k : Str) : lookT (kx ws) k = (lookW ws k).map (·.x) := by
  induction ws with
  | nil => rfl
  | cons e r ih =>
    unfold lookT lookW kx at *
    rw [List.map_cons, List.find?_cons, List.find?_cons]
    by_cases h : e.k = k
    · simp [h]
    · simp [h]; simpa using ih
theorem applyW_old {ws : List WE} {en : WE} {i : WI} (h : lookW ws i.tag = some en) (hn : (ws.map (·.k)).Nodup) : kx (updE ws en.k (en.x.wish i)) = applyW (kx ws) i := by
  obtain ⟨hm, hk⟩ := lookW_mem h
  have hu : ∀ e ∈ ws, e.k = en.k → e = en := by
    intro e he heq
    obtain ⟨i, hi⟩ := List.mem_iff_getElem?.mp he
    obtain ⟨j, hj⟩ := List.mem_iff_getElem?.mp hm
    have hnd := List.nodup_iff_pairwise_ne.mp hn
    have hi' := List.getElem?_eq_some_iff.mp hi
    have hj' := List.getElem?_eq_some_iff.mp hj
    rcases Nat.lt_trichotomy i j with h | h | h
    · have := List.pairwise_iff_getElem.mp hnd i j (by simpa using hi'.1) (by simpa using hj'.1) h
      simp only [List.getElem_map, hi'.2, hj'.2] at this
      exact absurd heq this
    · subst h; rw [hi] at hj; exact Option.some.inj hj
    · have := List.pairwise_iff_getElem.mp hnd j i (by simpa using hj'.1) (by simpa using hi'.1) h
      simp only [List.getElem_map, hi'.2, hj'.2] at this
      exact absurd heq.symm this
  rw [kx_upd hu]
  unfold applyW putT
  rw [lookT_kx, h, if_pos, hk]
  · rfl
  · rw [show (kx ws).map (·.1) = ws.map (·.k) from by simp [kx], ← hk]
    exact List.mem_map_of_mem hm
theorem applyW_new {ws : List WE} {x dx : Addr} {i : WI} (h : lookW ws i.tag = none) : kx (ws ++ [⟨i.tag, x, dx, (⟨0, 0, false, false⟩ : WD).wish i⟩]) = applyW (kx ws) i := by
  have hk : i.tag ∉ (kx ws).map (·.1) := by
    intro hm
    rw [show (kx ws).map (·.1) = ws.map (·.k) from by simp [kx]] at hm
    obtain ⟨e, he, hek⟩ := List.mem_map.mp hm
    unfold lookW at h
    have := List.find?_eq_none.mp h e he
    simp [hek] at this
  unfold applyW putT
  rw [lookT_kx, h, if_neg hk]
  simp [kx]

inductive AwI (prog : Program) (w : World) (news : List (Addr × Obj)) (d : Addr) (ar b : Bool) (wis : List WI) (i : Nat) (nx : List (Addr × Obj)) : Prop
  | mk (ws : List WE) : FI prog w news d ws nx → kx ws = (wis.take i).foldl applyW (firstT ar b) → ws.length ≤ 30 + i → AwI prog w news d ar b wis i nx
def awJ (prog : Program) (w : World) (news : List (Addr × Obj)) (d : Addr) (ar b : Bool) (wis : List WI) (i : Nat) (m : Str → Option Value) (nx : List (Addr × Obj)) : Prop :=
  AwI prog w news d ar b wis i nx ∧ m (Str.ofString "found") = some (.ref d)

theorem aw_new {prog : Program} {w : World} {g h' : Heap} {L I d x dx : Addr} {io od od' : Obj} {M : Str → Option Value} {news R : List (Addr × Obj)} {ws : List WE} {ar b : Bool} {wis : List WI} {wi : WI} (x1 : WD) {i : Nat} {t0 t1 t2 t3 t4 t5 : Tok} {s₁ : Shared} {tk : Nat}
    (F : Fr g L h' M) (N : News g L h' ((x, instObj 136 dx) :: (dx, wantO w x1 (tf6 t0 t1 t2 t3 t4 t5) 4) :: (I, io) :: (d, od') :: R)) (hl : I < dx ∧ d < dx ∧ AllLt dx R) (hx : dx < x)
    (hd' : od'.IsDictOf (PySem.strKind prog w) (stored (ws.map fun e => (e.k, Value.ref e.a)) wi.tag (.ref x))) (hFI : FI prog w news d ws ((d, od) :: R)) (hlk : lookW ws wi.tag = none) (hw : x1 = (⟨0, 0, false, false⟩ : WD).wish wi)
    (hk : kx ws = (wis.take i).foldl applyW (firstT ar b)) (htk : (wis.take (i + 1)).foldl applyW (firstT ar b) = applyW ((wis.take i).foldl applyW (firstT ar b)) wi) (hlen : ws.length ≤ 30 + i) (hI : ∀ p ∈ (d, od) :: R, p.1 ≠ I)
    (m1 : M (Str.ofString "found") = some (.ref d)) : TurnE g L I io (awJ prog w news d ar b wis (i + 1)) s₁ { s₁ with heap := h', toks := tk } := by
  have ht : wi.tag ∉ ws.map (·.k) := by
    intro hm
    obtain ⟨e, he, hek⟩ := List.mem_map.mp hm
    unfold lookW at hlk
    have := List.find?_eq_none.mp hlk e he
    simp [hek] at this
  refine ⟨h', tk, M, _, rfl, F, N, .tail _ (.tail _ (.head _)), _, ?_, ?_, ⟨ws ++ [⟨wi.tag, x, dx, x1⟩], FI_snoc x1 (tf := tf6 t0 t1 t2 t3 t4 t5) hFI hd' ht hl.2 hx, ?_, ?_⟩, m1⟩
  · intro p hp
    rcases List.mem_cons.mp hp with rfl | hp
    · exact .tail _ (.tail _ (.tail _ (.head _)))
    · rcases List.mem_cons.mp hp with rfl | hp
      · exact .head _
      · rcases List.mem_cons.mp hp with rfl | hp
        · exact .tail _ (.head _)
        · exact .tail _ (.tail _ (.tail _ (.tail _ hp)))
  · intro p hp
    rcases List.mem_cons.mp hp with rfl | hp
    · exact hI (d, od) (.head _)
    · rcases List.mem_cons.mp hp with rfl | hp
      · exact Nat.ne_of_gt (Nat.lt_trans hl.1 hx)
      · rcases List.mem_cons.mp hp with rfl | hp
        · exact Nat.ne_of_gt hl.1
        · exact hI p (.tail _ hp)
  · rw [htk, ← hk, hw]; exact applyW_new hlk
  · simp; omega
theorem aw_old {prog : Program} {w : World} {g h' : Heap} {L I d : Addr} {io od : Obj} {M : Str → Option Value} {news R : List (Addr × Obj)} {ws : List WE} {en : WE} {ar b : Bool} {wis : List WI} {wi : WI} (x1 : WD) {i : Nat} {t0 t1 t2 t3 t4 t5 : Tok} {s₁ : Shared} {tk : Nat}
    (F : Fr g L h' M) (N : News g L h' ((I, io) :: (d, od) :: (en.ad, wantO w x1 (tf6 t0 t1 t2 t3 t4 t5) 4) :: R)) (hlk : lookW ws wi.tag = some en) (hnd : (ws.map (·.k)).Nodup)
    (hFI : ∀ x' t', FI prog w news d (updE ws en.k x') ((d, od) :: (en.ad, wantO w x' t' 4) :: R)) (hw : x1 = en.x.wish wi)
    (hk : kx ws = (wis.take i).foldl applyW (firstT ar b)) (htk : (wis.take (i + 1)).foldl applyW (firstT ar b) = applyW ((wis.take i).foldl applyW (firstT ar b)) wi) (hlen : ws.length ≤ 30 + i) (h1 : d ≠ I) (h2 : I ≠ en.ad) (h3 : ∀ p ∈ R, p.1 ≠ I)
    (m1 : M (Str.ofString "found") = some (.ref d)) : TurnE g L I io (awJ prog w news d ar b wis (i + 1)) s₁ { s₁ with heap := h', toks := tk } := by
  refine ⟨h', tk, M, _, rfl, F, N, .head _, _, fun p hp => .tail _ hp, ?_, ⟨updE ws en.k x1, hFI x1 _, ?_, ?_⟩, m1⟩
  · intro p hp
    rcases List.mem_cons.mp hp with rfl | hp
    · exact h1
    · rcases List.mem_cons.mp hp with rfl | hp
      · exact h2.symm
      · exact h3 p hp
  · rw [htk, ← hk, hw]; exact applyW_old hlk hnd
  · unfold updE; rw [List.length_map]; omega

theorem valueAt_stored_new {kvs : List (Str × Value)} {k : Str} {v : Value} (h : valueAt kvs k = none) : valueAt (stored kvs k v) k = some v := by
  have hk : k ∉ kvs.map (·.1) := by
    intro hm
    obtain ⟨p, hp, hpk⟩ := List.mem_map.mp hm
    unfold valueAt at h
    rw [Option.map_eq_none_iff] at h
    have := List.find?_eq_none.mp h p hp
    simp [hpk] at this
  unfold valueAt at h ⊢
  rw [Option.map_eq_none_iff] at h
  rw [stored_new hk, List.find?_append, h]
  simp
set_option hygiene false in
local macro_rules | `(tactic| walk_at "call ref") => `(tactic| (k_here; (try dsimp only [List.append_nil, List.nil_append, List.cons_append]); (with_reducible first
  | (show wpAny _ _ (call (Value.ref 97) [Value.ref _]) _ _ _; k_dflt (refine' whole_spec (by k_asm) (by k_asm) (by k_asm) (by k_asm) (by k_mem) (by k_mem) (by k_asm) rfl (by first | assumption | ktr_room) ?_))
  | (show wpAny _ _ (call (Value.ref 111) [Value.ref _]) _ _ _; k_dflt (refine' check_spec (by k_asm) (by k_asm) (by k_asm) (by k_asm) (by k_mem) (by k_mem) (by assumption) (by assumption) (by assumption) (by k_asm) rfl (by first | assumption | ktr_room) ?_))); intros))
section
set_option hygiene false in
local macro_rules | `(tactic| walk_at "subscriptTail") => `(tactic| (k_here; (with_reducible show wpAny _ _ (subscriptTail _ _ (Value.ref _) (Value.str _ _)) _ _ _); k_dflt (refine' kda_item (knd := PySem.strKind _ _) (by k_asm) (by k_mem) (by k_asm) (strKind_is _ _ _ _) (by first | assumption | exact valueAt_stored_new (by assumption)) ?_)))
set_option hygiene false in
local macro_rules | `(tactic| walk_at "call ref") => `(tactic| (k_here; (try dsimp only [List.append_nil, List.nil_append, List.cons_append]); (with_reducible show wpAny _ _ (call (Value.ref 147) [_, _]) _ _ _); k_dflt (refine' first_spec (by k_asm) (by k_asm) (by k_asm) (by k_asm) (by assumption) (by k_asm) rfl (by first | assumption | ktr_room) ?_); intro h'Z tk'Z d'Z od'Z R'Z ws'Z hk'Z hFI'Z F'Z N'Z lo'Z l1Z))

set_option hygiene false in
local macro_rules | `(tactic| walk_at "call ref") => `(tactic| (k_here; (try dsimp only [List.append_nil, List.nil_append, List.cons_append]); (with_reducible show wpAny _ _ (call (Value.ref 136) [Value.int _ _, Value.int _ _]) _ _ _); k_dflt (refine' want_spec (by k_asm) (by k_asm) (by k_asm) (by k_asm) (by k_asm) rfl (by first | assumption | ktr_room) ?_); intro h'Z tk'Z x'Z dx'Z tf'Z l1'Z l2'Z F'Z N'Z; (try dsimp only [AllLt] at l1'Z)))

set_option maxHeartbeats 4000000 in
theorem all_spec {prog : Program} {w : World} {p : Program} {loose : List Str} {mean : ExcName → Option Value} {mg mb : Str → Option Value}
    {dp un : Nat} {gd : Option (List Code)} {cn : Str} {cs : Scope} {a : Addr} {ccd : Value} {cl : List (Str × Addr)} {outer : List Env} {A₀ : Around} {base h₀ : Heap} {L : Addr} {m : Str → Option Value} {news : List (Addr × Obj)} {s : Shared}
    {Q E : Value → Shared → Prop} {sc : Str} {tt : Tok} {b : Bool} {wl : Addr} {wv : List Value} {wis : List WI} {n : Nat}
    (B : Below A₀ base outer h₀) (F : Fr h₀ L s.heap m) (X : (hd.heap_39 w.params).In h₀)
    (N : News h₀ L s.heap news) (hsc : sc = Str.ofString "arab" ∨ sc = Str.ofString "latn") (hwl : (wl, PySem.W.listOf wv.toArray n) ∈ news) (hwi : WishesAre w news wv wis) (hlen : wv.length ≤ 100)
    (htag : ∀ x ∈ wis, x.tag.length = 4 ∧ 0 ≤ x.v ∧ x.v ≤ 9)
    (T : Top p loose mean mg mb h₀) (hcs : cs.kind = .function) (hdp : dp + 20 < recursionLimit)
    (ret : ∀ h' tk' d od R ws, kx ws = wis.foldl applyW (firstT (decide (sc = Str.ofString "arab")) b) → FI prog w news d ws ((d, od) :: R) → Fr h₀ L h' m → News h₀ L h' ((d, od) :: R) → (d == sysModules) = false → (∀ p ∈ news, p.1 < d) → Q (.ref d) { s with heap := h', toks := tk' }) :
    wpAny (model prog w) (ktrTop dp un gd cn cs L a ccd cl outer) (call (.ref 154) [.str sc tt, .bool b, .ref wl]) Q E s := by
  refine wpAny_call ?_
  have hdp5 : dp + 1 + 5 < recursionLimit := by omega
  k_dflt ktr_enter
  k_with "pyIter ref" => (fail "stop here")
  k_steps
  rename FI prog w news _ _ _ => hFI
  rename kx _ = _ => hk
  rename Fr _ _ _ _ => F1
  rename News _ _ _ _ => N1
  rename (_ == sysModules) = false => hlo
  obtain ⟨od1, R1, e1, q1, q2, q3, q4, q5, q6, q7⟩ := id hFI
  refine' iter_list (J := awJ prog w news _ (decide (sc = Str.ofString "arab")) b wis) ?hh F1 N1 ?hl ?J0 ?Jf ?turn ?done
  case hh => rfl
  case hl => rw [e1]; exact .tail _ (q5 _ hwl)
  case J0 =>
    refine ⟨⟨_, hFI, hk, ?_⟩, by with_unfolding_all rfl⟩
    have h1 := congrArg List.length hk
    have h2 : ∀ ar b, (firstT ar b).length ≤ 30 := by decide
    have h3 := h2 (decide (sc = Str.ofString "arab")) b
    rw [← h1] at h3
    simpa [kx] using h3
  case Jf =>
    rintro i m nx ⟨⟨ws, ⟨od, R, rfl, -, -, -, -, h1, -⟩, -⟩, -⟩
    exact .tail _ (h1 _ hwl)
  case turn =>
    intro i v m₁ news₁ h tk I io hv hJ hI F3 N3
    obtain ⟨⟨ws2, hFI2, hk2, hl2⟩, hm1⟩ := hJ
    obtain ⟨wa, wad, wi, wt, wn, rfl, hwi2, hw1, hw2⟩ := hwi.get hv
    obtain ⟨ht1, ht2, ht3⟩ := htag wi (List.mem_of_getElem? hwi2)
    have ht4 : (wi.tag.length : Int) = 4 := by omega
    obtain ⟨od2, R2, rfl, f1, f2, f3, f4, f5, f6, f7⟩ := id hFI2
    have hIR : ∀ p ∈ R2, p.1 ≠ I := fun p hp => hI p (.tail _ hp)
    have hil : i < 100 := by have := (List.getElem?_eq_some_iff.mp hv).1; omega
    have hkl : (ws2.map fun e => (e.k, Value.ref e.a)).length ≤ 1000 := by rw [List.length_map]; omega
    have hnd : (ws2.map (·.k)).Nodup := by
      obtain ⟨es, ep, _, _, _, _, hkn⟩ := f1
      simpa [List.map_map, Function.comp_def] using hkn
    have hva := lookW_at ws2 wi.tag
    have htk : (wis.take (i + 1)).foldl applyW (firstT (decide (sc = Str.ofString "arab")) b) = applyW ((wis.take i).foldl applyW (firstT (decide (sc = Str.ofString "arab")) b)) wi := by
      rw [List.take_add_one, hwi2]; simp
    have F4 := fr_knownX F3 [(_, _)] ⟨hm1, trivial⟩
    simp only [known] at F4
    clear F3
    cases hlk : lookW ws2 wi.tag with
    | none =>
      rw [hlk] at hva
      replace hva : valueAt (ws2.map fun e => (e.k, Value.ref e.a)) wi.tag = none := hva
      have hIdm : I ≠ _ := Ne.symm (hI _ (.head _))
      have hw3 := f5 _ hw1
      have hw4 := f5 _ hw2
      k_steps
      · show TurnE _ _ _ _ _ _ _
        exact aw_new ⟨wi.v, if wi.v > 0 then wi.v else 0, false, false⟩ (by assumption) (by assumption) (by assumption) (by assumption) (by assumption) hFI2 hlk (by simp [WD.wish, *]) hk2 htk hl2 hI (by with_unfolding_all rfl)
      · show TurnE _ _ _ _ _ _ _
        exact aw_new ⟨0, if wi.v > 0 then wi.v else 0, false, true⟩ (by assumption) (by assumption) (by assumption) (by assumption) (by assumption) hFI2 hlk (by simp [WD.wish, *]) hk2 htk hl2 hI (by with_unfolding_all rfl)
    | some en =>
      rw [hlk] at hva
      replace hva : valueAt (ws2.map fun e => (e.k, Value.ref e.a)) wi.tag = some (.ref en.a) := hva
      have hek := (lookW_mem hlk).2
      obtain ⟨R3, t3, N4, g1, g2, g3, g4, g5, g6, g7, g8⟩ := FI_rot hFI2 (by rw [hek]; exact hlk) N3 hI
      have hIdm : I ≠ _ := Ne.symm (hI _ (.head _))
      have hw3 := g7 _ hw1
      have hw4 := g7 _ hw2
      clear N3
      k_steps
      · show TurnE _ _ _ _ _ _ _
        exact aw_old ⟨wi.v, if wi.v > en.x.m then wi.v else en.x.m, false, en.x.p⟩ (by assumption) (by assumption) hlk hnd g8 (by simp [WD.wish, *]) hk2 htk hl2 hIdm.symm g4 g6 (by with_unfolding_all rfl)
      · show TurnE _ _ _ _ _ _ _
        exact aw_old ⟨en.x.v, if wi.v > en.x.m then wi.v else en.x.m, en.x.s, true⟩ (by assumption) (by assumption) hlk hnd g8 (by simp [WD.wish, *]) hk2 htk hl2 hIdm.symm g4 g6 (by with_unfolding_all rfl)
  case done =>
    intro m₁ news₁ h tk hJ F3 N3
    obtain ⟨⟨ws2, hFI2, hk2, hl2⟩, hm1⟩ := hJ
    obtain ⟨od2, R2, rfl, f1, f2, f3, f4, f5, f6, f7⟩ := id hFI2
    have F4 := fr_known F3 [(_, _)] ⟨hm1, trivial⟩
    simp only [known] at F4
    clear F3
    rw [hwi.length, List.take_length] at hk2
    k_steps
    rename Fr _ _ _ _ => F8
    rename News _ _ _ _ => N8
    exact ret _ _ _ _ _ ws2 hk2 hFI2 F8 N8 hlo (by assumption)
end
def lawTags : List Str := [Str.ofString "liga", Str.ofString "salt", Str.ofString "calt", Str.ofString "ss01", Str.ofString "smcp", Str.ofString "init", Str.ofString "rtlm", Str.ofString "zero"]
abbrev poolO (ca : Addr) (g st pl : Int) (tg ts tp : Tok) (n : Nat) : Obj := PySem.W.listOf (List.toArray [.ref ca, .int g tg, .int st ts, .int pl tp]) n

theorem item_top {prog : Program} {w : World} {A : Around} {E : Value → Shared → Prop} {s : Shared} {h₀ : Heap} {L : Addr} {m : Str → Option Value} {K : Frag} {t : Addr} {vs : List Value} {dd : Option Addr} {n : Nat} {sl : Array (Option Value)} {value slice : PySem.Expr} {k : Int} {u : Tok} {Q : Value → Shared → Prop}
    (F : Fr h₀ L s.heap m) (X : K.In h₀) (l1 : K.lookup t = some ⟨.type "tuple", dd, .seq vs.toArray n, sl⟩) (hs : allStr vs = true) (h0 : 0 ≤ k) (hk : k < (vs.length : Int)) (hb : vs.length ≤ 1000)
    (h : ∀ x t, x ∈ strsOf vs → Q (.str x t) s)
    (hsu : subscripted slice false (.ref t) (.int k u) = operate [.ref t, .int k u] (getItem (.ref t) (.int k u)) := by with_unfolding_all rfl) (hg : ∀ r, letTemporaryGo value (.ref t) r = pure () := by intro _; with_unfolding_all rfl) :
    wpAny (model prog w) A (subscriptTail value slice (.ref t) (.int k u)) Q E s := by
  have hlt : k.toNat < vs.length := by omega
  obtain ⟨x, t', e, hx⟩ := strsAre_get (strsAre_of hs) (List.getElem?_eq_getElem hlt)
  exact item_tupleL (j := k.toNat) (x := .str x t') ⟨_, F.keep _ _ (X _ _ l1), rfl, _, rfl⟩ (by omega) (by omega) (seqIndex_of h0 hk) (by rw [← e]; simp [hlt]) (h x t' (List.mem_of_getElem? hx)) hsu hg
theorem append_my {prog : Program} {w : World} {A : Around} {E : Value → Shared → Prop} {s : Shared} {h₀ : Heap} {L D : Addr} {m : Str → Option Value} {news news' : List (Addr × Obj)} {vs : List Value} {n : Nat} {x : Value} {Q : Value → Shared → Prop} (F : Fr h₀ L s.heap m) (N : News h₀ L s.heap news) (U : Upd D (PySem.W.listOf vs.toArray n) (PySem.W.listOf (vs ++ [x]).toArray (n + 1)) news news')
    (hsz : vs.length ≤ 1000) (h : ∀ h', Fr h₀ L h' m → News h₀ L h' news' → Q .none { s with heap := h' }) : wpAny (model prog w) A (call (.builtin "list.append") [.ref D, x]) Q E s := by
  have e : (vs ++ [x]).toArray = vs.toArray.push x := by simp
  rw [e] at U
  exact append_K F N U h (by rw [PySem.sizeLine_eq]; simp; omega)

set_option hygiene false in
local macro_rules | `(tactic| walk_at "call ref") => `(tactic| (k_here; (try dsimp only [List.append_nil, List.nil_append, List.cons_append]); (with_reducible show wpAny _ _ (call (Value.ref 180) [Value.ref _, Value.int _ _]) _ _ _); k_dflt (refine' draw_spec (by k_asm) (by k_asm) (by k_asm) (by k_asm) (by k_updF) (by k_mem) (by assumption) (by assumption) (by assumption) (by decide) (by decide) (by first | assumption | omega) (by first | assumption | omega) (by assumption) (by assumption) (by k_asm) rfl (by first | assumption | ktr_room) ?_); intro r'Z tr'Z g'Z st'Z tg'Z ts'Z tp'Z h'Z tk'Z hr1'Z hr2'Z hs1'Z hs2'Z F'Z N'Z; (try dsimp only at N'Z)))
set_option hygiene false in
local macro_rules | `(tactic| walk_at "exec For Name Call cons nil") => `(tactic| (k_here; (rename Fr _ _ _ _ => lF'Z); (with_unfolding_all refine' For_invVF lF'Z rfl rfl ?_ (by intro _; rfl) (by first | passes_own | assumption))))
set_option hygiene false in
local macro_rules | `(tactic| walk_at "pyIter ref") => `(tactic| (k_here; refine Stop.mk ?_))
set_option hygiene false in
local macro_rules | `(tactic| k_ne) => `(tactic| first | assumption | (refine Ne.symm ?_; assumption))
section
set_option hygiene false in
local macro_rules | `(tactic| walk_at "subscriptTail") => `(tactic| (k_here; (with_reducible show wpAny _ _ (subscriptTail _ _ (Value.ref _) (Value.int _ _)) _ _ _); k_dflt (refine' item_top (by k_asm) (by k_asm) (by k_is) (by rfl) (by assumption) (by assumption) (Nat.le_of_ble_eq_true rfl) ?_); intro x'Z t'Z hx'Z))
set_option hygiene false in
local macro_rules | `(tactic| walk_at "call builtin:list.append") => `(tactic| (k_here; (with_reducible show wpAny _ _ (call (Value.builtin _) [Value.ref _, _]) _ _ _); k_dflt (refine' append_my (by k_asm) (by k_asm) (by k_upd) (by assumption) ?_); intro h'Z F'Z N'Z; (try k_sweep)))

def Stop (P : Prop) : Prop := P
theorem Stop.mk {P : Prop} (h : Stop P) : P := h
set_option hygiene false in
local macro_rules | `(tactic| walk_at "call type:range") => `(tactic| (k_here; (with_reducible show wpAny _ _ (call _ [Value.int _ _]) _ _ _); k_dflt (refine' range1_rows (by k_asm) (by k_asm) ?_); intro h'Z tk'Z t'Z u'Z v'Z hR'Z F'Z N'Z hg'Z))

inductive lwJ (w : World) (rest : List (Addr × Obj)) (pa ca fl : Addr) (n : Nat) (pl₀ : Int) (i : Nat) (m : Str → Option Value) (nx : List (Addr × Obj)) : Prop
  | mk (g st pl : Int) (tg ts tp : Tok) (wv : List Value) (wis : List WI) (R : List (Addr × Obj)) (nf : Nat) : nx = (fl, PySem.W.listOf (wv : List Value).toArray nf) :: (pa, poolO ca g st pl tg ts tp n) :: R → 0 ≤ st → st < 2147483647 → 0 ≤ pl → pl ≤ pl₀ + 10 * i → WishesAre w R wv wis → wis.length = i → (∀ x ∈ wis, x.tag ∈ lawTags ∧ 0 ≤ x.v ∧ x.v ≤ 9) →
    (∀ p ∈ rest, p ∈ R) → (∀ p ∈ R, p.1 ≠ fl) → (∀ p ∈ R, p.1 ≠ pa) → (∀ p ∈ R, p ∈ rest ∨ (pa < p.1 ∧ ∀ q ∈ rest, q.1 < p.1)) → m (Str.ofString "pool") = some (.ref pa) → m (Str.ofString "found") = some (.ref fl) → lwJ w rest pa ca fl n pl₀ i m nx

theorem WishesAre.snoc {w : World} {news : List (Addr × Obj)} {vs : List Value} {xs : List WI} (h : WishesAre w news vs xs) {a ad : Addr} {x : WI} {t : Nat → Tok} {n : Nat} (h1 : (a, instObj 100 ad) ∈ news) (h2 : (ad, wishO w x t n) ∈ news) : WishesAre w news (vs ++ [.ref a]) (xs ++ [x]) := by
  induction h with
  | nil => exact .cons h1 h2 .nil
  | cons b1 b2 _ ih => exact .cons b1 b2 ih
theorem lw_end {w : World} {g h' : Heap} {L I pa ca fl x dx Dt : Addr} {io ot : Obj} {M : Str → Option Value} {rest R : List (Addr × Obj)} {wv : List Value} {wis : List WI} {nf n i : Nat} {pl₀ gg st pl pl1 : Int} {tg ts tp : Tok} (wi : WI) {tf : Nat → Tok} {s₁ : Shared} {tk : Nat}
    (F : Fr g L h' M) (N0 : News g L h' ((x, instObj 100 dx) :: (dx, wishO w wi tf 4) :: (Dt, ot) :: (I, io) :: (fl, PySem.W.listOf (wv ++ [Value.ref x]).toArray (nf + 1)) :: (pa, poolO ca gg st pl tg ts tp n) :: R))
    (hl0 : Dt < dx ∧ I < dx ∧ fl < dx ∧ pa < dx ∧ AllLt dx R) (hx : dx < x) (hst : 0 ≤ st) (hst2 : st < 2147483647) (hpl : 0 ≤ pl) (hpl1 : pl1 ≤ pl₀ + 10 * i) (hpl2 : pl ≤ pl1 + 4) (hW : WishesAre w R wv wis) (hlen : wis.length = i) (hall : ∀ x ∈ wis, x.tag ∈ lawTags ∧ 0 ≤ x.v ∧ x.v ≤ 9) (hwi : wi.tag ∈ lawTags ∧ 0 ≤ wi.v ∧ wi.v ≤ 9)
    (hsub : ∀ p ∈ rest, p ∈ R) (hR1 : ∀ p ∈ R, p.1 ≠ fl) (hR2 : ∀ p ∈ R, p.1 ≠ pa) (hR3 : ∀ p ∈ R, p ∈ rest ∨ (pa < p.1 ∧ ∀ q ∈ rest, q.1 < p.1)) (hI1 : fl ≠ I) (hI2 : pa ≠ I) (hI3 : ∀ p ∈ R, p.1 ≠ I)
    (m1 : M (Str.ofString "pool") = some (.ref pa)) (m2 : M (Str.ofString "found") = some (.ref fl)) : TurnE g L I io (lwJ w rest pa ca fl n pl₀ (i + 1)) s₁ { s₁ with heap := h', toks := tk } := by
  have hl := hl0.2
  have N := news_sub (b := (x, instObj 100 dx) :: (dx, wishO w wi tf 4) :: (I, io) :: (fl, PySem.W.listOf (wv ++ [Value.ref x]).toArray (nf + 1)) :: (pa, poolO ca gg st pl tg ts tp n) :: R) N0 (by
    intro p hp
    rcases List.mem_cons.mp hp with rfl | hp
    · exact .head _
    · rcases List.mem_cons.mp hp with rfl | hp
      · exact .tail _ (.head _)
      · exact .tail _ (.tail _ (.tail _ hp)))
  have hRl : ∀ p ∈ R, p.1 < dx := lt_of_allLt hl.2.2.2
  refine ⟨h', tk, M, _, rfl, F, N, .tail _ (.tail _ (.head _)), _, ?_, ?_, gg, st, pl, tg, ts, tp, wv ++ [Value.ref x], wis ++ [wi], (x, instObj 100 dx) :: (dx, wishO w wi tf 4) :: R, nf + 1, rfl, hst, hst2, hpl, by push_cast; omega, ?_, by simp [hlen], ?_, fun p hp => .tail _ (.tail _ (hsub p hp)), ?_, ?_, ?_, m1, m2⟩
  · intro p hp
    rcases List.mem_cons.mp hp with rfl | hp
    · exact .tail _ (.tail _ (.tail _ (.head _)))
    · rcases List.mem_cons.mp hp with rfl | hp
      · exact .tail _ (.tail _ (.tail _ (.tail _ (.head _))))
      · rcases List.mem_cons.mp hp with rfl | hp
        · exact .head _
        · rcases List.mem_cons.mp hp with rfl | hp
          · exact .tail _ (.head _)
          · exact .tail _ (.tail _ (.tail _ (.tail _ (.tail _ hp))))
  · intro p hp
    rcases List.mem_cons.mp hp with rfl | hp
    · exact hI1
    · rcases List.mem_cons.mp hp with rfl | hp
      · exact hI2
      · rcases List.mem_cons.mp hp with rfl | hp
        · exact Nat.ne_of_gt (Nat.lt_trans hl.1 hx)
        · rcases List.mem_cons.mp hp with rfl | hp
          · exact Nat.ne_of_gt hl.1
          · exact hI3 p hp
  · exact (hW.mono fun p hp => .tail _ (.tail _ hp)).snoc (t := tf) (n := 4) (.head _) (.tail _ (.head _))
  · intro y hy
    rcases List.mem_append.mp hy with hy | hy
    · exact hall y hy
    · rw [List.mem_singleton.mp hy]; exact hwi
  · intro p hp
    rcases List.mem_cons.mp hp with rfl | hp
    · exact Nat.ne_of_gt (Nat.lt_trans hl.2.1 hx)
    · rcases List.mem_cons.mp hp with rfl | hp
      · exact Nat.ne_of_gt hl.2.1
      · exact hR1 p hp
  · intro p hp
    rcases List.mem_cons.mp hp with rfl | hp
    · exact Nat.ne_of_gt (Nat.lt_trans hl.2.2.1 hx)
    · rcases List.mem_cons.mp hp with rfl | hp
      · exact Nat.ne_of_gt hl.2.2.1
      · exact hR2 p hp
  · intro p hp
    rcases List.mem_cons.mp hp with rfl | hp
    · exact .inr ⟨Nat.lt_trans hl.2.2.1 hx, fun q hq => Nat.lt_trans (hRl q (hsub q hq)) hx⟩
    · rcases List.mem_cons.mp hp with rfl | hp
      · exact .inr ⟨hl.2.2.1, fun q hq => hRl q (hsub q hq)⟩
      · exact hR3 p hp

theorem nat_of {r : Int} {b : Int} (h2 : r < b) (h1 : 0 ≤ r) : ∃ k : Nat, r = (k : Int) ∧ (k : Int) < b := ⟨r.toNat, by omega, by omega⟩
set_option hygiene false in
local macro_rules | `(tactic| walk_at "call ref") => `(tactic| (k_here; (try dsimp only [List.append_nil, List.nil_append, List.cons_append]); (with_reducible show wpAny _ _ (call (Value.ref 100) [Value.str _ _, Value.int _ _, Value.int _ _, Value.int _ _]) _ _ _); k_dflt (refine' wish_spec (by k_asm) (by k_asm) (by k_asm) (by k_asm) (by k_asm) rfl (by first | assumption | ktr_room) ?_); intro h'Z tk'Z x'Z dx'Z tf'Z l1'Z l2'Z F'Z N'Z; (try dsimp only [AllLt] at l1'Z)))
theorem pl_four {a b : Int} {i : Nat} (h0 : 0 ≤ a) (h1 : a ≤ b + 1 + 10 * i) (hb : b ≤ 1000) (hi : i < 6) : (a ≤ 100000 ∧ a + 1 ≤ 100000 ∧ a + 1 + 1 ≤ 100000 ∧ a + 1 + 1 + 1 ≤ 100000) ∧ 0 ≤ a + 1 ∧ 0 ≤ a + 1 + 1 ∧ 0 ≤ a + 1 + 1 + 1 ∧ 0 ≤ a + 1 + 1 + 1 + 1 ∧ a + 1 + 1 + 1 ≤ a + 4 ∧ a + 1 + 1 + 1 + 1 ≤ a + 4 := by
  have h : a ≤ 90000 := by omega
  have k1 := Int.add_le_add_right h 1
  have k2 := Int.add_le_add_right k1 1
  have k3 := Int.add_le_add_right k2 1
  have p1 := Int.add_nonneg h0 (show (0 : Int) ≤ 1 by decide)
  have p2 := Int.add_nonneg p1 (show (0 : Int) ≤ 1 by decide)
  have p3 := Int.add_nonneg p2 (show (0 : Int) ≤ 1 by decide)
  refine ⟨⟨Int.le_trans h (by decide), Int.le_trans k1 (by decide), Int.le_trans k2 (by decide), Int.le_trans k3 (by decide)⟩, p1, p2, p3, Int.add_nonneg p3 (by decide), ?_, ?_⟩
  · rw [Int.add_assoc, Int.add_assoc]
    exact Int.add_le_add_left (by decide) a
  · rw [Int.add_assoc, Int.add_assoc, Int.add_assoc]
    exact Int.le_refl _

set_option maxHeartbeats 4000000 in
theorem wishes_spec {prog : Program} {w : World} {p : Program} {loose : List Str} {mean : ExcName → Option Value} {mg mb : Str → Option Value}
    {dp un : Nat} {gd : Option (List Code)} {cn : Str} {cs : Scope} {a : Addr} {ccd : Value} {cl : List (Str × Addr)} {outer : List Env} {A₀ : Around} {base h₀ : Heap} {L : Addr} {m : Str → Option Value} {rest : List (Addr × Obj)} {s : Shared}
    {Q E : Value → Shared → Prop} {pa ca : Addr} {g st pl : Int} {tg ts tp : Tok} {n nc : Nat} {vs : List Value} {ns : List Int}
    (B : Below A₀ base outer h₀) (F : Fr h₀ L s.heap m) (X : (hd.heap_39 w.params).In h₀)
    (N : News h₀ L s.heap ((pa, poolO ca g st pl tg ts tp n) :: rest)) (hrest : ∀ q ∈ rest, q.1 ≠ pa) (hc : (ca, PySem.W.listOf vs.toArray nc) ∈ rest) (hca : ca ≠ pa) (hi : IntsAre vs ns) (hb : vs.length ≤ 1000) (hpl : 0 ≤ pl) (hpl2 : pl ≤ 1000) (hst : 0 ≤ st) (hst2 : st < 2147483647)
    (T : Top p loose mean mg mb h₀) (hcs : cs.kind = .function) (hdp : dp + 20 < recursionLimit)
    (ret : ∀ fl h' tk' g st pl' tg ts tp wv wis R nf, 0 ≤ st → st < 2147483647 → 0 ≤ pl' → pl' ≤ pl + 100 → WishesAre w R wv wis → wis.length ≤ 5 → (∀ x ∈ wis, x.tag ∈ lawTags ∧ 0 ≤ x.v ∧ x.v ≤ 9) → (∀ p ∈ rest, p ∈ R) → (∀ p ∈ R, p.1 ≠ fl) → (∀ p ∈ R, p.1 ≠ pa) →
      (∀ p ∈ R, p ∈ rest ∨ (pa < p.1 ∧ ∀ q ∈ rest, q.1 < p.1)) → pa < fl → (∀ p ∈ rest, p.1 < fl) → Fr h₀ L h' m → News h₀ L h' ((fl, PySem.W.listOf (wv : List Value).toArray nf) :: (pa, poolO ca g st pl' tg ts tp n) :: R) → Q (.ref fl) { s with heap := h', toks := tk' }) :
    wpAny (model prog w) (ktrTop dp un gd cn cs L a ccd cl outer) (call (.ref 188) [.ref pa]) Q E s := by
  refine wpAny_call ?_
  have hdp5 : dp + 1 + 5 < recursionLimit := by omega
  k_dflt ktr_enter
  k_with "pyIter ref" => (fail "stop here")
  k_steps
  rename Fr _ _ _ _ => F1
  rename News _ _ _ _ => N1
  rename IsRange _ _ _ _ _ _ _ _ => hR1
  rename _ < 6 => hr2
  rename _ < _ ∧ AllLt _ rest => hl1
  obtain ⟨k, hk, hk6⟩ := nat_of hr2 (by assumption)
  refine Stop.mk (id ?_)
  show wpAny _ _ _ _ _ _
  refine' iter_range (n := k) (J := lwJ w rest pa ca _ n (pl + 1)) ?hh hR1 ?hn ?hb F1 N1 ?J0 ?turn ?done
  case hh => rfl
  case hn => exact hk
  case hb => omega
  case J0 =>
    refine ⟨_, _, _, _, _, _, [], [], rest, 0, rfl, ?_, ?_, ?_, ?_, .nil, rfl, fun x hx => (nomatch hx), fun p hp => hp, ?_, hrest, fun p hp => .inl hp, by with_unfolding_all rfl, by with_unfolding_all rfl⟩
    · assumption
    · assumption
    · omega
    · omega
    · exact ne_of_allLt hl1.2
  case turn =>
    intro i v m₁ news₁ h tk I io hin hJ hI F3 N3
    obtain ⟨gg, st1, pl1, tg1, ts1, tp1, wv, wis, R, nf, rfl, a1, a2, a3, a4, a5, a6, a7, a8, a9, a10, a11, a12, a13⟩ := hJ
    have hIR : ∀ p ∈ R, p.1 ≠ I := fun p hp => hI p (.tail _ (.tail _ hp))
    have hI1 := neN (hI _ (.head _))
    have hI2 := neN (hI _ (.tail _ (.head _)))
    simp only at hI1 hI2
    have hcR := a8 _ hc
    have hfp := hl1.1
    have hwvl : wv.length ≤ 1000 := by have := a5.length; omega
    have F4 := fr_knownX F3 [(_, _), (_, _)] ⟨a12, a13, trivial⟩
    simp only [known] at F4
    clear F3
    have hz0 := pl_four a3 a4 hpl2 (by omega)
    have u1 := hz0.1.1
    have u2 := hz0.1.2.1
    have u3 := hz0.1.2.2.1
    have u4 := hz0.1.2.2.2
    have u5 := hz0.2.1
    have u6 := hz0.2.2.1
    have u7 := hz0.2.2.2.1
    have u8 := hz0.2.2.2.2.1
    have u9 := hz0.2.2.2.2.2.1
    have u10 := hz0.2.2.2.2.2.2
    k_steps
    all_goals (
      rename _ ∈ strsOf _ => hx9
      show TurnE _ _ _ _ _ _ _
      refine lw_end (pl1 := pl1) ⟨_, _, _, _⟩ (by assumption) (by assumption) (by assumption) (by assumption) (by assumption) (by assumption) ?_ a4 ?_ a5 a6 a7 ⟨hx9, by assumption, ?_⟩ a8 a9 a10 a11 hI1 hI2 hIR (by with_unfolding_all rfl) (by with_unfolding_all rfl)
      · first | assumption | omega
      · first | assumption | omega
      · exact Int.le_of_lt_add_one (by assumption))
  case done =>
    intro m₁ news₁ h tk hJ F3 N3
    obtain ⟨gg, st1, pl1, tg1, ts1, tp1, wv, wis, R, nf, rfl, a1, a2, a3, a4, a5, a6, a7, a8, a9, a10, a11, a12, a13⟩ := hJ
    have F4 := fr_known F3 [(_, _), (_, _)] ⟨a12, a13, trivial⟩
    simp only [known] at F4
    clear F3
    k_steps
    rename Fr _ _ _ _ => F8
    rename News _ _ _ _ => N8
    exact ret _ _ _ _ _ _ _ _ _ _ _ _ _ a1 a2 a3 (by omega) a5 (by omega) a7 a8 a9 a10 a11 hl1.1 (lt_of_allLt hl1.2) F8 N8
end
section
variable {prog : Program} {w : World} {A : Around} {h₀ : Heap} {L : Addr} {m : Str → Option Value} {env : Env}
theorem compEnd_mono {s₁ s₂ : Shared} {I C D : Addr} {oI oC oD : Obj} {S : List (Addr × Obj) → Prop} {r r' : Value → List (Addr × Obj) → Prop} {y : Value} (h : LCg.CompEnd h₀ L m s₁ I oI C oC D oD S r y s₂) (hr : ∀ n, r y n → r' y n) : LCg.CompEnd h₀ L m s₁ I oI C oC D oD S r' y s₂ := by
  obtain ⟨h', tk, news', e, F, N, o, hS, hy⟩ := h
  exact ⟨h', tk, news', e, F, N, o, hS, hr _ hy⟩
theorem rest_U {elt : Expr} {x : Str} {scope : Scope} {cl : List (Str × Addr)} {s : Shared} {S : List (Addr × Obj) → Prop} {P : Nat → Value → Prop} {Fin : List Value → List (Addr × Obj) → Prop} {n : Nat} (J : Nat → List Value → List (Addr × Obj) → Prop)
    (fin : ∀ ys news, J n ys news → Fin ys news)
    (step : ∀ i ys news v I oI C oC D m₂ h tk (E' : Value → Shared → Prop), i < n → J i ys news → P i v → LCg.NsObj oC m₂ → m₂ x = some v → Fr h₀ L h m → News h₀ L h ((I, oI) :: (C, oC) :: (D, LCg.lst ys) :: news) → LCg.Off3 I C D news → ((@Ne Nat I C) ∧ (@Ne Nat I D) ∧ (@Ne Nat C D)) →
      wpAny (model prog w) A (eval elt (compEnvC scope cl C env)) (LCg.CompEnd h₀ L m { s with heap := h, toks := tk } I oI C oC D (LCg.lst ys) S (fun y news' => J (i + 1) (ys ++ [y]) news')) E' { s with heap := h, toks := tk }) :
    ∀ k i ys news, i + k = n → J i ys news → LCg.CompRest prog w A h₀ L m env elt x scope cl s S P Fin k i ys news := by
  intro k
  induction k with
  | zero => intro i ys news e hj; exact LCg.CompRest.zero (fin _ _ (by rw [← e]; exact hj))
  | succ k ih =>
    intro i ys news e hj
    refine LCg.CompRest.succ fun v I oI C oC D m₂ h tk E' hP hN hm F N o ne => ?_
    exact wpAny_mono (step i ys news v I oI C oC D m₂ h tk E' (by omega) hj hP hN hm F N o ne) (fun y s' hy => compEnd_mono hy fun nw hn => ih (i + 1) (ys ++ [y]) nw (by omega) hn) fun _ _ z => z
theorem rest_T {ct elt : Expr} {x : Str} {scope : Scope} {cl : List (Str × Addr)} {s : Shared} {S : List (Addr × Obj) → Prop} {P : Nat → Value → Prop} {Fin : List Value → List (Addr × Obj) → Prop} {n : Nat} (J : Nat → List Value → List (Addr × Obj) → Prop)
    (fin : ∀ ys news, J n ys news → Fin ys news)
    (step : ∀ i ys news v I oI C oC D m₂ h tk (E' : Value → Shared → Prop), i < n → J i ys news → P i v → LCg.NsObj oC m₂ → m₂ x = some v → Fr h₀ L h m → News h₀ L h ((I, oI) :: (C, oC) :: (D, LCg.lst ys) :: news) → LCg.Off3 I C D news → ((@Ne Nat I C) ∧ (@Ne Nat I D) ∧ (@Ne Nat C D)) →
      wpAny (model prog w) A (isTrue ct (compEnvC scope cl C env) (eval ct (compEnvC scope cl C env))) (fun ok s' => if ok = true then
        wpAny (model prog w) A (eval elt (compEnvC scope cl C env)) (LCg.CompEnd h₀ L m { s with heap := h, toks := tk } I oI C oC D (LCg.lst ys) S (fun y news' => J (i + 1) (ys ++ [y]) news')) E' s'
        else LCg.CompEnd h₀ L m { s with heap := h, toks := tk } I oI C oC D (LCg.lst ys) S (fun _ news' => J (i + 1) ys news') Value.none s') E' { s with heap := h, toks := tk }) :
    ∀ k i ys news, i + k = n → J i ys news → LCt.CompRestT prog w A h₀ L m env ct elt x scope cl s S P Fin k i ys news := by
  intro k
  induction k with
  | zero => intro i ys news e hj; exact LCt.CompRestT.zero (fin _ _ (by rw [← e]; exact hj))
  | succ k ih =>
    intro i ys news e hj
    refine LCt.CompRestT.succ fun v I oI C oC D m₂ h tk E' hP hN hm F N o ne => ?_
    refine wpAny_mono (step i ys news v I oI C oC D m₂ h tk E' (by omega) hj hP hN hm F N o ne) (fun ok s' hy => ?_) fun _ _ z => z
    by_cases hok : ok = true
    · rw [if_pos hok] at hy ⊢
      exact wpAny_mono hy (fun y s'' hy' => compEnd_mono hy' fun nw hn => ih (i + 1) (ys ++ [y]) nw (by omega) hn) fun _ _ z => z
    · rw [if_neg hok] at hy ⊢
      exact compEnd_mono hy fun nw hn => ih (i + 1) ys nw (by omega) hn
end


section
variable {prog : Program} {w : World} {A : Around} {E : Value → Shared → Prop} {s : Shared} {h₀ : Heap} {L : Addr} {news : List (Addr × Obj)} {l : Addr} {n : Nat} {Q : Bool → Shared → Prop}
theorem truthy_nil (N : News h₀ L s.heap news) (hm : (l, PySem.W.listOf (([] : List Value)).toArray n) ∈ news) (h : Q false { s with toks := s.toks + 1 + 1 }) : wpAny (model prog w) A (truthy (.ref l)) Q E s :=
  wpAny_truthy_list (News.isList N hm) (by simp) (by simpa using h)
theorem truthy_cons {v : Value} {vs : List Value} (N : News h₀ L s.heap news) (hm : (l, PySem.W.listOf (v :: vs).toArray n) ∈ news) (hb : vs.length ≤ 1000) (h : Q true { s with toks := s.toks + 1 + 1 }) : wpAny (model prog w) A (truthy (.ref l)) Q E s :=
  wpAny_truthy_list (News.isList N hm) (by simp; omega) (by simpa using h)
theorem item0 {value slice : PySem.Expr} {v : Value} {vs : List Value} {u : Tok} {Q : Value → Shared → Prop} (N : News h₀ L s.heap news) (hm : (l, PySem.W.listOf (v :: vs).toArray n) ∈ news) (h : Q v s)
    (hs : subscripted slice false (.ref l) (.int 0 u) = operate [.ref l, .int 0 u] (getItem (.ref l) (.int 0 u)) := by with_unfolding_all rfl) (hg : ∀ r, letTemporaryGo value (.ref l) r = pure () := by intro _; with_unfolding_all rfl) :
    wpAny (model prog w) A (subscriptTail value slice (.ref l) (.int 0 u)) Q E s :=
  item_list (News.isList N hm) (by decide) (by decide) (by simp) h hs hg
end
section
set_option hygiene false in
local macro_rules | `(tactic| walk_at "truthy ref") => `(tactic| (k_here; k_dflt (first
  | (refine' truthy_nil (by k_asm) (List.Mem.head _) ?_)
  | (refine' truthy_cons (by k_asm) (List.Mem.head _) (by assumption) ?_))))
set_option hygiene false in
local macro_rules | `(tactic| walk_at "subscriptTail") => `(tactic| (k_here; (with_reducible show wpAny _ _ (subscriptTail _ _ (Value.ref _) (Value.int _ _)) _ _ _); k_dflt (refine' item0 (by k_asm) (List.Mem.head _) ?_)))
set_option hygiene false in
local macro_rules | `(tactic| walk_at "exec Assign cons ListComp") => `(tactic| (k_here; k_dflt (refine LCg.Assign_ListComp_U (F₀ := by k_asm) (by rfl) (by with_unfolding_all rfl) (by with_unfolding_all rfl) (by decide) (by rfl) (by decide) (by rfl) (by rfl) (by rfl) ?_)))
set_option hygiene false in
local macro_rules | `(tactic| walk_at "CompSrc") => `(tactic| (k_here; refine Stop.mk ?_))
def boxJ (nx0 : List (Addr × Obj)) (D : Addr) (_ : Nat) (m : Str → Option Value) (nx : List (Addr × Obj)) : Prop :=
  nx = nx0 ∧ m (Str.ofString "cells") = some (.ref D) ∧ (∃ st ts, m (Str.ofString "state") = some (.int st ts) ∧ 0 ≤ st ∧ st < 2147483647) ∧ ∃ g tg, m (Str.ofString "great") = some (.int g tg)
theorem ints_get {vs : List Value} {ns : List Int} (h : IntsAre vs ns) : ∀ {i : Nat} {v : Value}, vs[i]? = some v → ∃ c t, v = .int c t := by
  induction h with
  | nil => intro i v hv; simp at hv
  | cons a t _ ih =>
    intro i v hv
    cases i with
    | zero => simp at hv; exact ⟨a, t, hv.symm⟩
    | succ i => exact ih (i := i) (by simpa using hv)
theorem off1_ne {D : Addr} {l : List (Addr × Obj)} (h : LCg.Off1 D l) : ∀ p ∈ l, p.1 ≠ D := by
  induction l with
  | nil => intro p hp; nomatch hp
  | cons q r ih =>
    intro p hp
    rcases List.mem_cons.mp hp with rfl | hp
    · exact h.1
    · exact ih h.2 p hp
section
variable {prog : Program} {w : World} {A : Around} {E : Value → Shared → Prop} {s : Shared} {env : Env} {h₀ : Heap} {x : Str} {body : List Stmt} {Q : Flow → Shared → Prop}
theorem box_loop {D : Addr} {ys : List Value} {ms : List Int} {n : Nat} {R : List (Addr × Obj)} {m₀ : Str → Option Value} {st gg : Int} {ts tg : Tok}
    (hh : A.handled = none) (F : Fr h₀ env.locals s.heap m₀) (N : News h₀ env.locals s.heap ((D, PySem.W.listOf ys.toArray n) :: R)) (hys : IntsAre ys ms)
    (hK : Knows m₀ [(Str.ofString "cells", .ref D), (Str.ofString "state", .int st ts), (Str.ofString "great", .int gg tg)]) (h0 : 0 ≤ st) (h1 : st < 2147483647)
    (turn : ∀ i c tc gg tg st ts (u : Str → Option Value) h tk I io, 0 ≤ st → st < 2147483647 → (∀ p ∈ (D, PySem.W.listOf ys.toArray n) :: R, p.1 ≠ I) →
      Fr h₀ env.locals h (fun y => if y = x then some (.int c tc) else if y = Str.ofString "cells" then some (.ref D) else if y = Str.ofString "state" then some (.int st ts) else if y = Str.ofString "great" then some (.int gg tg) else u y) →
      News h₀ env.locals h ((I, io) :: (D, PySem.W.listOf ys.toArray n) :: R) →
      wpAny (model prog w) A (execs body env) (TurnP h₀ env.locals I io (boxJ ((D, PySem.W.listOf ys.toArray n) :: R) D (i + 1)) { s with heap := h, toks := tk } Q) E { s with heap := h, toks := tk })
    (done : ∀ gg tg st ts (u : Str → Option Value) h tk, 0 ≤ st → st < 2147483647 → Fr h₀ env.locals h (fun y => if y = Str.ofString "cells" then some (.ref D) else if y = Str.ofString "state" then some (.int st ts) else if y = Str.ofString "great" then some (.int gg tg) else u y) →
      News h₀ env.locals h ((D, PySem.W.listOf ys.toArray n) :: R) → Q .next { s with heap := h, toks := tk }) :
    wpAny (model prog w) A (pyIter (.ref D)) (fun it s₂ => LoopAtV prog w A h₀ env x body Q E it s₂) E s := by
  refine iter_list (J := boxJ ((D, PySem.W.listOf ys.toArray n) :: R) D) hh F N (.head _) ⟨rfl, hK.1, ⟨_, _, hK.2.1, h0, h1⟩, ⟨_, _, hK.2.2.1⟩⟩ ?_ ?_ ?_
  · rintro i m nx ⟨rfl, -⟩; exact .head _
  · rintro i v m₁ news₁ h tk I io hv ⟨rfl, k1, ⟨st, ts, k2, k3, k4⟩, ⟨gg, tg, k5⟩⟩ hI F6 N6
    have F7 := fr_knownX F6 [(_, _), (_, _), (_, _)] ⟨k1, k2, k5, trivial⟩
    simp only [known] at F7
    obtain ⟨c, tc, rfl⟩ := ints_get hys hv
    exact turn i c tc gg tg st ts m₁ h tk I io k3 k4 hI F7 N6
  · rintro m₁ news₁ h tk ⟨rfl, k1, ⟨st, ts, k2, k3, k4⟩, ⟨gg, tg, k5⟩⟩ F6 N6
    have F7 := fr_known F6 [(_, _), (_, _), (_, _)] ⟨k1, k2, k5, trivial⟩
    simp only [known] at F7
    exact done gg tg st ts m₁ h tk k3 k4 F7 N6
end
def BoxEnd (G : Heap) (L9 D : Addr) (oD : Obj) (nw : List (Addr × Obj)) (s : Shared) (fl : Flow) (s' : Shared) : Prop :=
  fl = .next ∧ ∃ h tk m gg tg, s' = { s with heap := h, toks := tk } ∧ Fr G L9 h m ∧ m (Str.ofString "cells") = some (.ref D) ∧ m (Str.ofString "great") = some (.int gg tg) ∧ News G L9 h ((D, oD) :: nw)
section
variable {prog : Program} {w : World} {A : Around} {E : Value → Shared → Prop} {s : Shared}
theorem If_box {G : Heap} {L9 D : Addr} {h9 : Heap} {m9 : Str → Option Value} {oD : Obj} {nw : List (Addr × Obj)} {Q : Flow → Shared → Prop} {t : Sem Flow} (_F : Fr G L9 h9 m9) (_N : News G L9 h9 ((D, oD) :: nw))
    (h1 : wpAny (model prog w) A t (fun fl s' => BoxEnd G L9 D oD nw s fl s') E s)
    (h2 : ∀ h tk m gg tg, Fr G L9 h m → m (Str.ofString "cells") = some (.ref D) → m (Str.ofString "great") = some (.int gg tg) → News G L9 h ((D, oD) :: nw) → Q .next { s with heap := h, toks := tk }) : wpAny (model prog w) A t Q E s :=
  wpAny_mono h1 (by rintro _ s' ⟨rfl, h, tk, m, gg, tg, rfl, F, a, b, N⟩; exact h2 h tk m gg tg F a b N) fun _ _ z => z
end
set_option hygiene false in
local macro_rules | `(tactic| walk_at "exec If") => `(tactic| (k_here; (with_reducible show wpAny _ _ (exec (PySem.Stmt.If (PySem.Expr.BoolOp _ _ _) _ _ _) _) _ _ _); (rename Fr _ _ _ _ => lF'Z); (rename News _ _ _ _ => lN'Z); k_dflt (refine' If_box lF'Z lN'Z ?_ ?_) <;> refine Stop.mk ?_))
set_option maxHeartbeats 4000000 in
theorem box_spec {prog : Program} {w : World} {p : Program} {loose : List Str} {mean : ExcName → Option Value} {mg mb : Str → Option Value}
    {dp un : Nat} {gd : Option (List Code)} {cn : Str} {cs : Scope} {a : Addr} {ccd : Value} {cl : List (Str × Addr)} {outer : List Env} {A₀ : Around} {base h₀ : Heap} {L : Addr} {m : Str → Option Value} {news : List (Addr × Obj)} {s : Shared}
    {Q E : Value → Shared → Prop} {l : Addr} {vs : List Value} {ns : List Int}
    (B : Below A₀ base outer h₀) (F : Fr h₀ L s.heap m) (X : (hd.heap_39 w.params).In h₀)
    (N : News h₀ L s.heap news) (hl : h₀.IsList l vs.toArray) (hi : IntsAre vs ns) (hlen : ns.length ≤ 63)
    (T : Top p loose mean mg mb h₀) (hcs : cs.kind = .function) (hdp : dp + 20 < recursionLimit)
    (ret : ∀ pa h' tk' ca g st tg ts tp vs' ns' nc R, 0 ≤ st → st < 2147483647 → IntsAre vs' ns' → vs'.length ≤ 1000 → ca ≠ pa → (ca, PySem.W.listOf vs'.toArray nc) ∈ R → (∀ p ∈ news, p ∈ R) → (∀ p ∈ R, p.1 ≠ pa) → (∀ p ∈ R, p ∈ news ∨ ∀ q ∈ news, q.1 ≠ p.1) → (∀ p ∈ news, p.1 < pa) →
      Fr h₀ L h' m → News h₀ L h' ((pa, poolO ca g st 0 tg ts tp 0) :: R) → Q (.ref pa) { s with heap := h', toks := tk' }) :
    wpAny (model prog w) (ktrTop dp un gd cn cs L a ccd cl outer) (call (.ref 173) [.ref l]) Q E s := by
  refine wpAny_call ?_
  k_dflt ktr_enter
  rename Fr h₀ L _ m => FG
  have hl2 := Fr.lst FG hl
  k_steps
  rename Fr _ _ _ _ => F1
  rename News _ _ _ _ => N1
  rename IntsAre _ (List.take 40 ns) => hI1
  rename ∀ p ∈ news, p.1 < _ => hlt1
  refine Stop.mk (id ?_)
  show LCg.CompSrc _ _ _ _ _ _ _ _ _ _ _ _ _ _
  refine LCg.CompSrc.ledger (by rfl) F1 N1 (.head _) ?_ (fun g => rest_U (fun i ys nx => (∃ ms, IntsAre ys ms) ∧ nx = _ ∧ ys.length = i) ?_ ?_ _ 0 [] _ (Nat.zero_add _) ⟨⟨[], .nil⟩, rfl, rfl⟩)
  · have h1 := hI1.length
    rw [PySem.sizeLine_eq]
    simp only [List.size_toArray]
    omega
  · rintro ys nx ⟨⟨ms, hys⟩, rfl, hyl⟩
    have hyl2 : ys.length ≤ 1000 := by
      have h1 := hI1.length
      simp only [List.size_toArray] at hyl
      omega
    k_steps
    · refine Stop.mk (id ?_)
      show wpAny _ _ _ _ _ _
      refine wpAny_If ?_
      cases hys with
      | nil =>
        k_steps
        show BoxEnd _ _ _ _ _ _ _ _
        exact ⟨rfl, _, _, _, _, _, rfl, by assumption, by with_unfolding_all rfl, by with_unfolding_all rfl, by assumption⟩
      | cons a t hys' =>
        have hyl3 : (_ : List Value).length ≤ 1000 := Nat.le_of_succ_le hyl2
        k_steps
        all_goals (
          show BoxEnd _ _ _ _ _ _ _ _
          exact ⟨rfl, _, _, _, _, _, rfl, by assumption, by with_unfolding_all rfl, by with_unfolding_all rfl, by assumption⟩)
    · refine Stop.mk (id ?_)
      rintro h7 tk7 m7 gg7 tg7 F7 k7 k8 N7
      have F8 := fr_known F7 [(_, _), (_, _)] ⟨k7, k8, trivial⟩
      simp only [known] at F8
      clear F7
      k_steps
      rename Fr _ _ _ _ => F5
      rename News _ _ _ _ => N5
      refine Stop.mk (id ?_)
      show wpAny _ _ _ _ _ _
      refine' box_loop ?hh2 ?F2 ?N2 hys ?hK2 ?a2 ?b2 ?turn2 ?done2
      case hh2 => rfl
      case F2 => exact F5
      case N2 => exact N5
      case hK2 => exact ⟨by with_unfolding_all rfl, by with_unfolding_all rfl, by with_unfolding_all rfl, trivial⟩
      case a2 => decide
      case b2 => decide
      case turn2 =>
        intro i c tc gg tg st ts u h tk I io hs1 hs2 hI F6 N6
        k_steps
        show TurnE _ _ _ _ _ _ _
        exact ⟨_, _, _, _, rfl, by assumption, by assumption, .head _, _, fun p hp => .tail _ hp, hI, rfl, by with_unfolding_all rfl, ⟨_, _, by with_unfolding_all rfl, (fm (by decide)).1, (fm (by decide)).2⟩, ⟨_, _, by with_unfolding_all rfl⟩⟩
      case done2 =>
        intro gg tg st ts u h tk hs1 hs2 F6 N6
        k_steps
        rename Fr _ _ _ _ => F8
        rename News _ _ _ _ => N8
        rename _ < _ ∧ _ < _ ∧ AllLt _ news => hlN
        rename _ ∧ LCg.Off1 _ news => hoN
        refine ret _ _ _ _ _ _ _ _ _ _ _ _ _ hs1 hs2 hys hyl2 (Nat.ne_of_lt hlN.1) (.head _) (fun p hp => .tail _ (.tail _ hp)) ?_ ?_ (lt_of_allLt hlN.2.2) F8 N8
        · intro p hp
          rcases List.mem_cons.mp hp with rfl | hp
          · exact Nat.ne_of_lt hlN.1
          · rcases List.mem_cons.mp hp with rfl | hp
            · exact Nat.ne_of_lt hlN.2.1
            · exact ne_of_allLt hlN.2.2 p hp
        · intro p hp
          rcases List.mem_cons.mp hp with rfl | hp
          · exact .inr fun q hq => off1_ne hoN.2 q hq
          · rcases List.mem_cons.mp hp with rfl | hp
            · exact .inr fun q hq => Nat.ne_of_lt (hlt1 q hq)
            · exact .inl hp
  · rintro i ys nx v I oI C oC D m₂ h tk E' hi ⟨⟨ms, hys⟩, rfl, hyl⟩ hP hN hm F2 N2 off ne
    obtain ⟨c, tc, rfl⟩ := ints_get hI1 (by simpa using hP)
    have off2 := off
    simp only [LCg.Off3] at off2
    k_steps
    refine ⟨_, _, _, rfl, by assumption, by assumption, off, .inr ⟨_, .head _, rfl, _, rfl⟩, ⟨ms ++ [c], hys.append (.cons _ _ .nil)⟩, rfl, by simp [hyl]⟩
end
section
variable {prog : Program} {w : World} {A : Around} {E : Value → Shared → Prop} {s : Shared} {h₀ : Heap} {L : Addr} {m : Str → Option Value} {news : List (Addr × Obj)}
theorem lsort_str {D : Addr} {c : Nat} {vs : List Value} {ss : List Str} {Q : Value → Shared → Prop} (F : Fr h₀ L s.heap m) (N : News h₀ L s.heap ((D, PySem.W.listOf vs.toArray c) :: news)) (hne : ∀ q ∈ news, q.1 ≠ D) (hS : StrsAre vs ss) (h64 : vs.length < 64)
    (h : ∀ (h' : Heap) (vs' : List Value) (ss' : List Str) (e : Nat), Fr h₀ L h' m → News h₀ L h' ((D, PySem.W.listOf vs'.toArray e) :: news) → StrsAre vs' ss' → ss'.Perm ss → sortedS ss' = true → Q .none { s with heap := h' }) :
    wpAny (model prog w) A (call (.builtin "list.sort") [.ref D]) Q E s := by
  have z := N _ (.head _)
  have ho : s.heap.get? D = some (seqObj "list" vs.toArray c) := z.1
  refine wpAny_call_entry PyProof.Rows.slot_list_sort ⟨_, z.1, rfl⟩ PyProof.Rows.entry_list_sort (list_sort_treeK strKind_oneLt (n := c) (vs := vs) ho hS.keysOf (fun v₁ v₂ rest e => keyKind_strs (by rw [← e]; exact hS)) h64 fun st' hp hs => ⟨.none, rfl, ?_⟩) (PyProof.Rows.args_list_sort _)
  obtain ⟨ss', h1, h2, h3⟩ := sorted_out_str hS hp hs
  generalize (arrOf st').map (·.2) = out at h1
  obtain ⟨e, he⟩ := sortedHeap_at (vs := vs) (out := out) ho
  have F4 : Fr h₀ L (sortedHeap s.heap D vs out) m :=
    ksk_fr (((ksk_fr F (Heap.SameBut.update s.heap D (Obj.mapSeq fun _ => #[])) z.2.1 z.2.2).push (seqObj "tuple" vs.toArray 0)).push (seqObj "list" #[] 0)) (Heap.SameBut.update _ D (Obj.mapSeq fun _ => out)) z.2.1 z.2.2
  refine h _ out.toList ss' e F4 ?_ h1 h2 h3
  intro p hp
  rcases List.mem_cons.mp hp with rfl | hp
  · exact ⟨by rw [Array.toArray_toList]; exact he, z.2⟩
  · have y := N p (.tail _ hp)
    exact ⟨(sortedHeap_old (hne p hp) (Heap.lt_size y.1)).trans y.1, y.2⟩

theorem strsAre_keys : ∀ {vs : List Value} {ks : List Str}, vs.length = ks.length → (∀ (j : Nat) (v : Value), vs[j]? = some v → ∃ k t, ks[j]? = some k ∧ v = .str k t) → StrsAre vs ks
  | [], [], _, _ => .nil
  | v :: vs, k :: ks, hl, h => by
    obtain ⟨k', t, e1, e2⟩ := h 0 v rfl
    cases Option.some.inj e1
    subst e2
    exact .cons _ t (strsAre_keys (by simpa using hl) fun j u hu => h (j + 1) u hu)

theorem sorted_dict {d : Addr} {od : Obj} {kvs : List (Str × Value)} {Q : Value → Shared → Prop} (hh : A.handled = none) (F : Fr h₀ L s.heap m) (N : News h₀ L s.heap news) (hp : (d, od) ∈ news) (hd : od.IsDictOf (PySem.strKind prog w) kvs) (lo : (d == sysModules) = false) (h64 : kvs.length < 64)
    (h : ∀ (D : Addr) (h' : Heap) (tk : Nat) (vs : List Value) (ss : List Str) (e : Nat), Fr h₀ L h' m → News h₀ L h' ((D, PySem.W.listOf vs.toArray e) :: news) → (∀ p ∈ news, p.1 < D) → StrsAre vs ss → ss.Perm (kvs.map (·.1)) → sortedS ss = true → Q (.ref D) { s with heap := h', toks := tk }) :
    wpAny (model prog w) A (call (.builtin "sorted") [.ref d]) Q E s := by
  obtain ⟨ep, hat⟩ := KdkAt.of hd
  refine kdu_sorted (kdl_dict (knd := PySem.strKind prog w) (kvs := kvs) (ep := ep) lo) hh F N (hat.dictAt (N _ hp).1) (by rw [PySem.sizeLine_eq]; omega) fun D h' tk vs F' N' l1 hl hv => ?_
  have hS : StrsAre vs (kvs.map (·.1)) := strsAre_keys (by simpa using hl) fun j v e => by
    obtain ⟨k, x, hx, hk⟩ := hv j v e
    obtain ⟨t, rfl⟩ := Value.isStrOf_shape hk
    exact ⟨k, t, by simp [hx], rfl⟩
  refine lsort_str (s := { s with heap := h', toks := tk }) F' N' (fun q hq => Nat.ne_of_lt (l1 q hq)) hS (by omega) fun h'' vs' ss' e F'' N'' a b c => ?_
  exact h D h'' tk vs' ss' e F'' N'' l1 a b c
end

section
section
open LCg LCt
variable {prog : Program} {w : World} {A : Around} {E : Value → Shared → Prop} {s : Shared} {h₀ : Heap} {L : Addr} {m : Str → Option Value} {env : Env}
def SrcD (prog : Program) (w : World) (A : Around) (h₀ : Heap) (L : Addr) (m : Str → Option Value) (env : Env) (ct elt : Expr) (x : Str) (scope : Scope) (cl : List (Str × Addr)) (Fin : Shared → List Value → List (Addr × Obj) → Prop) (xv : Value) (s₁ : Shared) : Prop :=
  ∃ d od kvs news, xv = .ref d ∧ A.handled = none ∧ Fr h₀ L s₁.heap m ∧ News h₀ L s₁.heap news ∧ (d, od) ∈ news ∧ od.IsDictOf (PySem.strKind prog w) kvs ∧ (d == sysModules) = false ∧ kvs.length ≤ sizeLine ∧
    ∀ s₂ : Shared, (∃ h, s₂ = { s₁ with heap := h }) → CompRestT prog w A h₀ L m env ct elt x scope cl s₂ (fun nw => (d, od) ∈ nw) (fun i v => ∃ (k : Str) (x : Value), kvs[i]? = some (k, x) ∧ (PySem.strKind prog w).is k v = true) (Fin s₂) kvs.length 0 [] news
theorem SrcD.mk {ct elt : Expr} {x : Str} {scope : Scope} {cl : List (Str × Addr)} {Fin : Shared → List Value → List (Addr × Obj) → Prop} {d : Addr} {od : Obj} {kvs : List (Str × Value)} {news : List (Addr × Obj)} {s₁ : Shared}
    (hh : A.handled = none) (F : Fr h₀ L s₁.heap m) (N : News h₀ L s₁.heap news) (hm : (d, od) ∈ news) (hd : od.IsDictOf (PySem.strKind prog w) kvs) (lo : (d == sysModules) = false) (hsz : kvs.length ≤ 1000)
    (h : ∀ g, CompRestT prog w A h₀ L m env ct elt x scope cl { s₁ with heap := g } (fun nw => (d, od) ∈ nw) (fun i v => ∃ (k : Str) (x : Value), kvs[i]? = some (k, x) ∧ (PySem.strKind prog w).is k v = true) (Fin { s₁ with heap := g }) kvs.length 0 [] news) :
    SrcD prog w A h₀ L m env ct elt x scope cl Fin (.ref d) s₁ := ⟨d, od, kvs, news, rfl, hh, F, N, hm, hd, lo, by rw [PySem.sizeLine_eq]; omega, fun _ ⟨g, e⟩ => e ▸ h g⟩

theorem ListComp_D {ct elt iter : Expr} {x : Str} {px : Pos} {scope : Scope} {cl : List (Str × Addr)} {pos : Pos} {Q : Value → Shared → Prop} (F₀ : Fr h₀ L s.heap m)
    (hclos : closureFor scope env = pure cl) (hcell : ∀ y ∈ scope.names, y.2 ≠ .cell) (hkind : scope.kind = .function)
    (hnames : ∀ y ∈ scope.names, y.2 = .local → scope.names.lookup y.1 = some .local) (hx : scope.names.lookup x = some .local)
    (h : wpAny (model prog w) A (eval iter env) (fun xv s₁ => Stop (SrcD prog w A h₀ L m env ct elt x scope cl (fun s₂ => FinE h₀ L m s₂ Q) xv s₁)) E s)
    (hs : ∀ x, foldedSetIterable iter env x = pure x := by intro _; rfl) :
    wpAny (model prog w) A (eval (.ListComp elt [⟨.Name x px, iter, [ct], 0⟩] scope pos) env) Q E s := by
  rw [eval_ListComp]
  refine wpAny_comprehension_free (use := none) rfl hs hclos hkind hnames (wpAny_mono h (fun xv s₁ h₁ => ?_) fun _ _ e => e)
  unfold Stop at h₁
  obtain ⟨d, od, kvs, news, rfl, hh, F, N, hm, hd, lo, hsz, R⟩ := h₁
  obtain ⟨ep, hat⟩ := KdkAt.of hd
  have hdA := hat.dictAt (N _ hm).1
  have hlt : d < s₁.heap.objs.size := hdA.lt_size
  refine wpAny_pyIter_dict lo hdA ?_
  refine block_T (Walks.dictKeys hh _ d (Nat.ne_of_lt hlt) kvs ep) hsz (fun i h st => by obtain ⟨o, e, _⟩ := st.1; exact ⟨o, e⟩) ?_ hcell hkind hx ⟨⟨_, Heap.get?_push_size _ rfl, rfl, rfl⟩, hdA.push _⟩ (fun b hb => ?_)
    (F.keeps fun _ _ e => Heap.get?_push_of_some _ e) (N.grown fun _ _ e => Heap.get?_push_of_some _ e) (Nat.ne_of_lt F.ns.lt) (next_is_new F) (fun p hp => Nat.ne_of_lt (Heap.lt_size (N p hp).1)) hm (R _ ⟨_, rfl⟩) ?_
  · rintro i h h' o nw ⟨⟨o1, e1, e2, e3⟩, _⟩ ho ho' _ hN hS
    rw [e1] at ho
    cases ho
    exact ⟨⟨_, ho', e2, e3⟩, hat.dictAt (hN _ hS).1⟩
  · show b < (s₁.heap.push _).objs.size
    rw [Heap.size_push]
    rcases List.mem_cons.mp hb with rfl | hb
    · exact Nat.lt_succ_self _
    · rw [List.mem_singleton.mp hb]; exact Nat.lt_succ_of_lt hlt
  · intro D C h tk m' ys news' F' N' o1 hn hC₀ hD₀ hCL hDL hCD offC fin
    refine ⟨m', hn, fun h'' hs'' => fin D h'' tk (F'.change hs'' hCL hC₀) (fun p hp => ?_) o1⟩
    refine ⟨hs''.extBut _ _ ?_ (N' p hp).1, (N' p hp).2⟩
    rcases List.mem_cons.mp hp with rfl | hp
    · exact Ne.symm hCD
    · exact offC p hp
theorem ListComp_DQ {ct elt iter : Expr} {x : Str} {px : Pos} {scope : Scope} {cl : List (Str × Addr)} {pos : Pos} {Q : Value → Shared → Prop} (F₀ : Fr h₀ L s.heap m)
    (hclos : closureFor scope env = pure cl) (hcell : ∀ y ∈ scope.names, y.2 ≠ .cell) (hkind : scope.kind = .function)
    (hnames : ∀ y ∈ scope.names, y.2 = .local → scope.names.lookup y.1 = some .local) (hx : scope.names.lookup x = some .local)
    (h : ∀ QQ : Value → Shared → Prop, (∀ xv s₁, SrcD prog w A h₀ L m env ct elt x scope cl (fun s₂ => FinE h₀ L m s₂ Q) xv s₁ → QQ xv s₁) → wpAny (model prog w) A (eval iter env) QQ E s)
    (hs : ∀ x, foldedSetIterable iter env x = pure x := by intro _; rfl) :
    wpAny (model prog w) A (eval (.ListComp elt [⟨.Name x px, iter, [ct], 0⟩] scope pos) env) Q E s :=
  ListComp_D F₀ hclos hcell hkind hnames hx (h _ fun _ _ z => z) hs
end
end
section
section
open AutoSeq1 (wpAny_loadPart')
variable {prog : Program} {w : World} {A : Around} {E : Value → Shared → Prop} {s : Shared}
theorem ne_tup2 {l b : Addr} {x y x' y' : Value} {n n2 : Nat} {dd dd2 : Option Addr} {sl sl2 : Array (Option Value)} {Q : Value → Shared → Prop}
    (hl : s.heap.get? l = some { cls := .type "tuple", dict := dd, data := .seq #[x, y] n, slots := sl }) (hb : s.heap.get? b = some { cls := .type "tuple", dict := dd2, data := .seq #[x', y'] n2, slots := sl2 }) (hu : A.units < cLine)
    (h1 : ∀ (E : Value → Shared → Prop) (Q : Bool → Shared → Prop), Q true s → wpAny (model prog w) A.in1 (eqBool x x') Q E s) (h2 : ∀ (E : Value → Shared → Prop) (Q : Bool → Shared → Prop), Q true s → wpAny (model prog w) A.in1 (eqBool y y') Q E s)
    (h : Q (.bool false) s) : wpAny (model prog w) A (compareOp .NotEq (.ref l) (.ref b)) Q E s := by
  refine wpAny_richCompare_same_room (op := .NotEq) (T := "tuple") ⟨_, hl, rfl⟩ ⟨_, hb, rfl⟩ PySem.F.slot_tuple_ne (wpAny_call_entry (T := "tuple") PySem.F.slot_tuple_ne ⟨_, hl, rfl⟩ PySem.F.entry_tuple_ne ?_ (PySem.F.args_tuple_ne_2 _ _)) hu
  obtain ⟨hp, g, d, tk, os⟩ := s
  have f2 := AutoSeq1.sub_tuple_tuple
  wp_walk using wpAny_loadPart' hl, wpAny_loadPart' hb, h1 _ _, h2 _ _
  exact ⟨_, rfl, (fun x => nomatch x), h⟩

theorem eqBool_dicts {a b : Addr} {ka kb : List (Str × Value)} {Q : Bool → Shared → Prop} (ha : (a == sysModules) = false) (hb : (b == sysModules) = false)
    (da : s.heap.DictOf (PySem.strKind prog w) a ka) (db : s.heap.DictOf (PySem.strKind prog w) b kb) (hu : A.units < cLine) (hits : KeqHits A.in1 s kb ka true) (hlen : ka.length = kb.length) (h : Q true s) :
    wpAny (model prog w) A (eqBool (.ref a) (.ref b)) Q E s := by
  unfold eqBool
  refine wpAny_holding ?_
  refine wpAny_ite_split (fun _ => wpAny_bind (wpAny_rule (wpAny_pure h))) (fun _ => ?_)
  refine wpAny_bind (keq_eq (r := true) ha hb da db hu (fun _ => hits) ?_)
  refine wpAny_truthy_bool ?_
  rw [hlen, beq_self_eq_true]
  exact h
end

section
variable {prog : Program} {w : World} {A : Around} {E : Value → Shared → Prop} {s : Shared} {h₀ : Heap} {L : Addr} {R : List (Addr × Obj)}
inductive LGet (R : List (Addr × Obj)) (kvs : List (Str × Value)) (q : Str × Int × Int) : Prop
  | mk (a : Addr) (tx ty : Tok) (n : Nat) : valueAt kvs q.1 = some (.ref a) → (a, ({ cls := .type "tuple", data := .seq #[.int q.2.1 tx, .int q.2.2 ty] n } : Obj)) ∈ R → LGet R kvs q
theorem MsAre.look {kvs : List (Str × Value)} {ms : List (Str × Int × Int)} (h : MsAre R kvs ms) (hn : (kvs.map (·.1)).Nodup) : ∀ q ∈ ms, LGet R kvs q := by
  induction h with
  | nil => intro q hq; cases hq
  | @cons k a x y tx ty n kvs ms h1 h2 ih =>
    intro q hq
    rcases List.mem_cons.mp hq with rfl | hq
    · exact ⟨a, tx, ty, n, by simp [valueAt], h1⟩
    · rw [List.map_cons, List.nodup_cons] at hn
      obtain ⟨a', tx', ty', n', e1, e2⟩ := ih hn.2 q hq
      refine ⟨a', tx', ty', n', ?_, e2⟩
      have hne : k ≠ q.1 := by
        intro e
        refine hn.1 ?_
        rw [h2.keys, e]
        exact List.mem_map_of_mem hq
      simpa [valueAt, hne] using e1
theorem reads_tup {h : Heap} {a : Addr} {x y : Int} {tx ty : Tok} {n : Nat} (N : News h₀ L h R) (hm : (a, ({ cls := .type "tuple", data := .seq #[.int x tx, .int y ty] n } : Obj)) ∈ R) : Reads h (.ref a) (.tuple [.int x, .int y]) [] :=
  Reads.tuple (N _ hm).1 rfl rfl (ReadsAll.cons (as := []) (.int x tx) (ReadsAll.cons (as := []) (.int y ty) .nil))
theorem eqAt_tup {a b : Addr} {x y x' y' : Int} {tx ty tx' ty' : Tok} {n n' : Nat} (N : News h₀ L s.heap R) (hm : (a, ({ cls := .type "tuple", data := .seq #[.int x tx, .int y ty] n } : Obj)) ∈ R) (hm' : (b, ({ cls := .type "tuple", data := .seq #[.int x' tx', .int y' ty'] n' } : Obj)) ∈ R) (hu : A.in1.units + 64 < cLine) :
    SeqAt.EqAt A.in1 s (.ref a) (.ref b) (decide (x = x') && decide (y = y')) := by
  have h := keq_at (A := A) (reads_tup N hm) (reads_tup N hm') rfl rfl hu
  have e : PyData.eqv (.tuple [.int x, .int y]) (.tuple [.int x', .int y']) = (decide (x = x') && decide (y = y')) := by
    show (x == x' && (y == y' && true)) = _
    rw [Bool.and_true]; rfl
  rw [e] at h
  exact h
theorem ms_hits {kb : List (Str × Value)} (N : News h₀ L s.heap R) (hu : A.in1.units + 64 < cLine) {ka : List (Str × Value)} {ms : List (Str × Int × Int)} (h : MsAre R ka ms)
    (hb : ∀ q ∈ ms, LGet R kb q) : KeqHits A.in1 s kb ka true := by
  induction h with
  | nil => exact .nil
  | @cons k a x y tx ty n kvs ms h1 h2 ih =>
    obtain ⟨a', tx', ty', n', e1, e2⟩ := hb _ (.head _)
    have hh := KeqHits.hit (r := kvs) e1 (eqAt_tup (A := A) N h1 e2 hu) (ih fun q hq => hb q (.tail _ hq))
    simpa using hh
end
end
def lawBody : List Stmt := match PySem.Challenge.pw_pb0164_01.main.body.drop 26 with
  | (.FunctionDef _ _ b _ _ _ _ _ _ _) :: _ => b
  | _ => []
def lawScope : Scope := match PySem.Challenge.pw_pb0164_01.main.body.drop 26 with
  | (.FunctionDef _ _ _ _ _ _ s _ _ _) :: _ => s
  | _ => default
abbrev lawEnv (L la : Addr) (cd : Value) : Env := envOfC (Str.ofString "law") lawScope L la cd

def OffC (L : Addr) (p : Addr) : Prop := @Ne Nat p (L + 1) ∧ @Ne Nat p (L + 2) ∧ @Ne Nat p (L + 3) ∧ @Ne Nat p (L + 4) ∧ @Ne Nat p (L + 5)
def OffCs (L : Addr) (R : List (Addr × Obj)) : Prop := ∀ p ∈ R, OffC L p.1
theorem OffCs.c1 {L : Addr} {R : List (Addr × Obj)} (h : OffCs L R) : ∀ p ∈ R, p.1 ≠ L + 1 := fun p hp => (h p hp).1
theorem OffCs.c2 {L : Addr} {R : List (Addr × Obj)} (h : OffCs L R) : ∀ p ∈ R, p.1 ≠ L + 1 + 1 := fun p hp => (h p hp).2.1
theorem OffCs.c3 {L : Addr} {R : List (Addr × Obj)} (h : OffCs L R) : ∀ p ∈ R, p.1 ≠ L + 1 + 1 + 1 := fun p hp => (h p hp).2.2.1
theorem OffCs.c4 {L : Addr} {R : List (Addr × Obj)} (h : OffCs L R) : ∀ p ∈ R, p.1 ≠ L + 1 + 1 + 1 + 1 := fun p hp => (h p hp).2.2.2.1
theorem OffCs.c5 {L : Addr} {R : List (Addr × Obj)} (h : OffCs L R) : ∀ p ∈ R, p.1 ≠ L + 1 + 1 + 1 + 1 + 1 := fun p hp => (h p hp).2.2.2.2

/-- the five cells: pool, wants, tags, masks, grown -/
abbrev cells5 (L : Addr) (o1 o2 o3 o4 o5 : Obj) (R : List (Addr × Obj)) : List (Addr × Obj) :=
  (L + 1 + 1 + 1 + 1 + 1, o5) :: (L + 1 + 1 + 1 + 1, o4) :: (L + 1 + 1 + 1, o3) :: (L + 1 + 1, o2) :: (L + 1, o1) :: R


def nc (o : Obj) : Bool := match o.data with
  | .cell _ => false
  | _ => true
def ncs (R : List (Addr × Obj)) : List (Addr × Obj) := R.filter fun p => nc p.2
theorem mem_ncs {R : List (Addr × Obj)} {p : Addr × Obj} (h : p ∈ R) (hn : nc p.2 = true) : p ∈ ncs R := List.mem_filter.mpr ⟨h, hn⟩
theorem nc_cell {o : Obj} {v : Option Value} (h : o.data = .cell v) : nc o = false := by unfold nc; rw [h]
theorem nc_dict {prog : Program} {w : World} {o : Obj} {kvs : List (Str × Value)} (h : o.IsDictOf (PySem.strKind prog w) kvs) : nc o = true := by
  obtain ⟨es, ep, _, hd, _⟩ := h
  unfold nc; rw [hd]

theorem renorm {g h : Heap} {L : Addr} {o1 o2 o3 o4 o5 : Obj} {v1 v2 v3 v4 v5 : Option Value} {X R R0 : List (Addr × Obj)} (hX : ∀ p ∈ X, nc p.2 = true) (N : News g L h (X ++ R)) (hsub : ∀ p ∈ cells5 L o1 o2 o3 o4 o5 R0, p ∈ R)
    (d1 : o1.data = .cell v1) (d2 : o2.data = .cell v2) (d3 : o3.data = .cell v3) (d4 : o4.data = .cell v4) (d5 : o5.data = .cell v5) :
    News g L h (cells5 L o1 o2 o3 o4 o5 (X ++ ncs R)) ∧ OffCs L (X ++ ncs R) := by
  have k5 := N _ (List.mem_append_right _ (hsub _ (.head _)))
  have k4 := N _ (List.mem_append_right _ (hsub _ (.tail _ (.head _))))
  have k3 := N _ (List.mem_append_right _ (hsub _ (.tail _ (.tail _ (.head _)))))
  have k2 := N _ (List.mem_append_right _ (hsub _ (.tail _ (.tail _ (.tail _ (.head _))))))
  have k1 := N _ (List.mem_append_right _ (hsub _ (.tail _ (.tail _ (.tail _ (.tail _ (.head _)))))))
  have sub : ∀ p ∈ X ++ ncs R, p ∈ X ++ R := by
    intro p hp
    rcases List.mem_append.mp hp with hp | hp
    · exact List.mem_append_left _ hp
    · exact List.mem_append_right _ (List.mem_filter.mp hp).1
  have hn : ∀ p ∈ X ++ ncs R, nc p.2 = true := by
    intro p hp
    rcases List.mem_append.mp hp with hp | hp
    · exact hX p hp
    · exact (List.mem_filter.mp hp).2
  have off : ∀ p ∈ X ++ ncs R, ∀ c o v, g.get? c = none → h.get? c = some o → o.data = .cell v → p.1 ≠ c := by
    intro p hp c o v _ ho hd e
    have := (N p (sub p hp)).1
    rw [e, ho] at this
    have e2 := Option.some.inj this
    have := hn p hp
    rw [← e2, nc_cell hd] at this
    cases this
  refine ⟨?_, fun p hp => ⟨off p hp _ _ _ k1.2.2 k1.1 d1, off p hp _ _ _ k2.2.2 k2.1 d2, off p hp _ _ _ k3.2.2 k3.1 d3, off p hp _ _ _ k4.2.2 k4.1 d4, off p hp _ _ _ k5.2.2 k5.1 d5⟩⟩
  intro p hp
  rcases List.mem_cons.mp hp with rfl | hp
  · exact k5
  · rcases List.mem_cons.mp hp with rfl | hp
    · exact k4
    · rcases List.mem_cons.mp hp with rfl | hp
      · exact k3
      · rcases List.mem_cons.mp hp with rfl | hp
        · exact k2
        · rcases List.mem_cons.mp hp with rfl | hp
          · exact k1
          · exact N p (sub p hp)

def nps (pa : Addr) (R : List (Addr × Obj)) : List (Addr × Obj) := R.filter fun p => nc p.2 && decide (@Ne Nat p.1 pa)
theorem mem_nps {R : List (Addr × Obj)} {pa : Addr} {p : Addr × Obj} (h : p ∈ R) (hn : nc p.2 = true) (hp : @Ne Nat p.1 pa) : p ∈ nps pa R := List.mem_filter.mpr ⟨h, by simp [hn, hp]⟩
theorem renorm2 {g h : Heap} {L pa : Addr} {po : Obj} {o1 o2 o3 o4 o5 : Obj} {v1 v2 v3 v4 v5 : Option Value} {R R0 : List (Addr × Obj)} (N : News g L h R) (hsub : ∀ p ∈ cells5 L o1 o2 o3 o4 o5 R0, p ∈ R) (hp : (pa, po) ∈ R) (hn : nc po = true)
    (d1 : o1.data = .cell v1) (d2 : o2.data = .cell v2) (d3 : o3.data = .cell v3) (d4 : o4.data = .cell v4) (d5 : o5.data = .cell v5) :
    News g L h (cells5 L o1 o2 o3 o4 o5 ((pa, po) :: nps pa R)) ∧ OffC L pa ∧ OffCs L (nps pa R) ∧ ∀ p ∈ nps pa R, p.1 ≠ pa := by
  obtain ⟨N1, O1⟩ := renorm (X := []) (by intro p hp; cases hp) N hsub d1 d2 d3 d4 d5
  have sub : ∀ p ∈ (pa, po) :: nps pa R, p ∈ ncs R := by
    intro p hp
    rcases List.mem_cons.mp hp with rfl | hp
    · exact mem_ncs (by assumption) hn
    · have h2 := List.mem_filter.mp hp
      exact mem_ncs h2.1 (Bool.and_eq_true_iff.mp h2.2).1
  refine ⟨?_, O1 _ (sub _ (.head _)), fun p hp => O1 _ (sub _ (.tail _ hp)), fun p hp => of_decide_eq_true (Bool.and_eq_true_iff.mp (List.mem_filter.mp hp).2).2⟩
  intro p hp
  rcases List.mem_cons.mp hp with rfl | hp
  · exact N1 _ (.head _)
  · rcases List.mem_cons.mp hp with rfl | hp
    · exact N1 _ (.tail _ (.head _))
    · rcases List.mem_cons.mp hp with rfl | hp
      · exact N1 _ (.tail _ (.tail _ (.head _)))
      · rcases List.mem_cons.mp hp with rfl | hp
        · exact N1 _ (.tail _ (.tail _ (.tail _ (.head _))))
        · rcases List.mem_cons.mp hp with rfl | hp
          · exact N1 _ (.tail _ (.tail _ (.tail _ (.tail _ (.head _)))))
          · exact N1 _ (.tail _ (.tail _ (.tail _ (.tail _ (.tail _ (sub _ hp))))))
theorem news_ne {g h : Heap} {L a pa : Addr} {o po : Obj} {R : List (Addr × Obj)} (N : News g L h R) (h1 : (a, o) ∈ R) (h2 : (pa, po) ∈ R) (hne : o.data ≠ po.data) : a ≠ pa := by
  rintro rfl
  have := (N _ h1).1.symm.trans (N _ h2).1
  exact hne (congrArg Obj.data (Option.some.inj this))
theorem dict_ne_seq {prog : Program} {w : World} {o : Obj} {kvs : List (Str × Value)} {xs : Array Value} {n : Nat} (h : o.IsDictOf (PySem.strKind prog w) kvs) : o.data ≠ .seq xs n := by
  obtain ⟨es, ep, _, hd, _⟩ := h
  rw [hd]; intro e; cases e
theorem fi_wants {prog : Program} {w : World} {g h : Heap} {L d pa ca : Addr} {g2 st2 pl2 : Int} {tg2 ts2 tp2 : Tok} {n : Nat} {od : Obj} {news R : List (Addr × Obj)} {ws : List WE} (hFI : FI prog w news d ws ((d, od) :: R)) (hd : (d == sysModules) = false)
    (N : News g L h ((d, od) :: R)) (hp : (pa, poolO ca g2 st2 pl2 tg2 ts2 tp2 n) ∈ (d, od) :: R) : WantsIn prog w (nps pa ((d, od) :: R)) d ws ∧ (∀ p ∈ news, p ∈ R) := by
  obtain ⟨od₁, R₁, e, f1, f2, f3, f4, f5, f6, f7⟩ := hFI
  cases e
  refine ⟨⟨hd, ⟨od, mem_nps (.head _) (nc_dict f1) (news_ne N (.head _) hp (dict_ne_seq f1)), f1⟩, ?_⟩, f5⟩
  intro e he
  obtain ⟨a1, t, a2⟩ := f2 e he
  exact ⟨mem_nps (.tail _ a1) rfl (news_ne N (.tail _ a1) hp (by intro e; cases e)), t, mem_nps (.tail _ a2) rfl (news_ne N (.tail _ a2) hp (by intro e; cases e))⟩
theorem wishes_nps {w : World} {g h : Heap} {L pa ca : Addr} {g2 st2 pl2 : Int} {tg2 ts2 tp2 : Tok} {n : Nat} {R : List (Addr × Obj)} {wv : List Value} {wis : List WI} (N : News g L h R) (hp : (pa, poolO ca g2 st2 pl2 tg2 ts2 tp2 n) ∈ R) (hw : WishesAre w R wv wis) : WishesAre w (nps pa R) wv wis := by
  induction hw with
  | nil => exact .nil
  | cons a1 a2 _ ih => exact .cons (mem_nps a1 rfl (news_ne N a1 hp (by intro e; cases e))) (mem_nps a2 rfl (news_ne N a2 hp (by intro e; cases e))) ih
theorem wishes_ncs {w : World} {R : List (Addr × Obj)} {wv : List Value} {wis : List WI} (hw : WishesAre w R wv wis) : WishesAre w (ncs R) wv wis := by
  induction hw with
  | nil => exact .nil
  | cons a1 a2 _ ih => exact .cons (mem_ncs a1 rfl) (mem_ncs a2 rfl) ih
theorem lawTags4 {t : Str} (h : t ∈ lawTags) : t.length = 4 := by
  have : ∀ t ∈ lawTags, t.length = 4 := by decide
  exact this t h

theorem to_head {g h : Heap} {L : Addr} {a b c5 c4 c3 c2 c1 x : Addr × Obj} {R : List (Addr × Obj)} (N : News g L h (a :: b :: c5 :: c4 :: c3 :: c2 :: c1 :: x :: R)) : News g L h (x :: c5 :: c4 :: c3 :: c2 :: c1 :: R) := by
  refine news_sub N ?_
  intro p hp
  simp only [List.mem_cons] at hp ⊢
  rcases hp with e | e | e | e | e | e | e <;> simp [e]

theorem item_tupS {prog : Program} {w : World} {A : Around} {E : Value → Shared → Prop} {s : Shared} {h₀ : Heap} {L : Addr} {news : List (Addr × Obj)} {D : Addr} {vs : List Value} {value slice : PySem.Expr} {k : Int} {u : Tok} {Q : Value → Shared → Prop}
    (N : News h₀ L s.heap news) (hm : (D, ({ cls := .type "tuple", data := .seq vs.toArray } : Obj)) ∈ news) (hs : allStr vs = true) (h0 : 0 ≤ k) (hk : k < (vs.length : Int)) (hb : vs.length ≤ 1000)
    (h : ∀ x t, x ∈ strsOf vs → Q (.str x t) s)
    (hsu : subscripted slice false (.ref D) (.int k u) = operate [.ref D, .int k u] (getItem (.ref D) (.int k u)) := by with_unfolding_all rfl) (hg : ∀ r, letTemporaryGo value (.ref D) r = pure () := by intro _; with_unfolding_all rfl) :
    wpAny (model prog w) A (subscriptTail value slice (.ref D) (.int k u)) Q E s := by
  have hlt : k.toNat < vs.length := by omega
  obtain ⟨x, t', e, hx⟩ := strsAre_get (strsAre_of hs) (List.getElem?_eq_getElem hlt)
  exact item_tupleL (j := k.toNat) (x := .str x t') (News.isTup N hm) (by omega) (by omega) (seqIndex_of h0 hk) (by rw [← e]; simp [hlt]) (h x t' (List.mem_of_getElem? hx)) hsu hg

theorem off_ne {L pa : Nat} (h : @Ne Nat pa (L + 1) ∧ @Ne Nat pa (L + 2) ∧ @Ne Nat pa (L + 3) ∧ @Ne Nat pa (L + 4) ∧ @Ne Nat pa (L + 5)) :
    L + 1 ≠ pa ∧ L + 1 + 1 ≠ pa ∧ L + 1 + 1 + 1 ≠ pa ∧ L + 1 + 1 + 1 + 1 ≠ pa ∧ L + 1 + 1 + 1 + 1 + 1 ≠ pa := ⟨h.1.symm, h.2.1.symm, h.2.2.1.symm, h.2.2.2.1.symm, h.2.2.2.2.symm⟩

set_option hygiene false in
local macro_rules | `(tactic| k_all) => `(tactic| first | assumption | exact OffCs.c1 (by assumption) | exact OffCs.c2 (by assumption) | exact OffCs.c3 (by assumption) | exact OffCs.c4 (by assumption) | exact OffCs.c5 (by assumption))
set_option hygiene false in
local macro_rules | `(tactic| walk_at "call ref") => `(tactic| (k_here; (try dsimp only [List.append_nil, List.nil_append, List.cons_append]); (with_reducible first | show wpAny _ _ (call (Value.ref 161) [_, _]) _ _ _ | show wpAny _ _ (call (Value.ref 168) [_, _]) _ _ _ | show wpAny _ _ (call (Value.ref 173) [_]) _ _ _ | show wpAny _ _ (call (Value.ref 188) [_]) _ _ _ | show wpAny _ _ (call (Value.ref 154) [_, _, _]) _ _ _); refine Stop.mk ?_))
section
set_option hygiene false in
local macro_rules | `(tactic| walk_at "subscriptTail") => `(tactic| (k_here; (with_reducible show wpAny _ _ (subscriptTail _ _ (Value.ref _) (Value.int _ _)) _ _ _); k_dflt (refine' item_tupS (by k_asm) (by k_mem) (by rfl) (by assumption) (by assumption) (Nat.le_of_ble_eq_true rfl) ?_); intro x'Z t'Z hx'Z))

inductive StA (prog : Program) (w : World) (base : Heap) (L : Addr) (o3 o4 o5 : Obj) (h : Heap) (m : Str → Option Value) : Prop
  | mk {o1 o2 : Obj} {pa ca fl d : Addr} {g st pl : Int} {tg ts tp : Tok} {nc nf : Nat} {pvs : List Value} {pns : List Int} {wv : List Value} {wis : List WI} {ws : List WE} {R : List (Addr × Obj)} {ar b : Bool}
    (hst : 0 ≤ st) (hst2 : st < 2147483647) (hpl : 0 ≤ pl) (hpl2 : pl ≤ 1000) (hi : IntsAre pvs pns) (hb : pvs.length ≤ 1000) (hca : ca ≠ pa) (hc : (ca, PySem.W.listOf pvs.toArray nc) ∈ R)
    (hpa : OffC L pa) (hO : OffCs L R) (hR : ∀ p ∈ R, p.1 ≠ pa) (d1 : o1.data = .cell (some (.ref pa))) (d2 : o2.data = .cell (some (.ref d)))
    (hfl : (fl, PySem.W.listOf wv.toArray nf) ∈ R) (hw : WishesAre w R wv wis) (hwl : wis.length ≤ 5) (hwi : ∀ x ∈ wis, x.tag ∈ lawTags ∧ 0 ≤ x.v ∧ x.v ≤ 9)
    (hWI : WantsIn prog w R d ws) (hk : kx ws = wis.foldl applyW (firstT ar b)) (F : Fr base L h m) (hm : m (Str.ofString "wishes") = some (.ref fl))
    (N : News base L h (cells5 L o1 o2 o3 o4 o5 ((pa, poolO ca g st pl tg ts tp 0) :: R))) : StA prog w base L o3 o4 o5 h m

set_option maxHeartbeats 4000000 in
theorem segA {prog : Program} {w : World} {p : Program} {loose : List Str} {mean : ExcName → Option Value} {mg mb : Str → Option Value} {base : Heap} {L la : Addr} {cd : Value} {m : Str → Option Value} {s : Shared} {Q : Flow → Shared → Prop} {E : Value → Shared → Prop}
    {o1 o2 o3 o4 o5 : Obj} {l : Addr} {vs : List Value} {ns : List Int}
    (B : Below callerA base [] base) (X : (hd.heap_39 w.params).In base) (T : Top p loose mean mg mb base)
    (F : Fr base L s.heap m) (N : News base L s.heap (cells5 L o1 o2 o3 o4 o5 [])) (hl : base.IsList l vs.toArray) (hi : IntsAre vs ns) (hlen : ns.length ≤ 63) (hm : m (Str.ofString "script") = some (.ref l))
    (d1 : o1.data = .cell none) (d2 : o2.data = .cell none) (d3 : o3.data = .cell none) (d4 : o4.data = .cell none) (d5 : o5.data = .cell none)
    (next : ∀ h tk m', StA prog w base L o3 o4 o5 h m' → wpAny (model prog w) (callerA.deeper (lawEnv L la cd)) (execs (lawBody.drop 4) (lawEnv L la cd)) Q E { s with heap := h, toks := tk }) :
    wpAny (model prog w) (callerA.deeper (lawEnv L la cd)) (execs lawBody (lawEnv L la cd)) Q E s := by
  with_unfolding_all change wpAny _ _ (execs (_ :: _ :: _ :: _ :: lawBody.drop 4) _) _ _ _
  generalize lawBody.drop 4 = rest at next ⊢
  simp only [lawEnv] at *
  rw [show lawScope = { kind := _, names := _, isGenerator := _, isCoroutine := _, more := _ } from by with_unfolding_all rfl] at next ⊢
  have F0 := fr_known F [(_, _)] ⟨hm, trivial⟩
  simp only [known] at F0
  clear F
  k_steps
  rename Fr _ _ _ _ => F1
  rename News _ _ _ _ => N1
  refine Stop.mk (id ?_)
  refine box_spec B F1 X N1 hl hi hlen T rfl (by ktr_room) ?_
  intro pa h1 tk1 ca g1 st1 tg1 ts1 tp1 vs1 ns1 nc1 R1 b1 b2 b3 b4 b5 b6 b7 b8 b9 b10 F2 N2
  obtain ⟨N3, O3⟩ := renorm (X := [(pa, poolO ca g1 st1 0 tg1 ts1 tp1 0)]) (by intro p hp; rw [List.mem_singleton.mp hp]; rfl) N2 b7 d1 d2 d3 d4 d5
  simp only [List.cons_append, List.nil_append] at N3 O3
  have hcR := mem_ncs b6 rfl
  have hpa := O3 _ (.head _)
  have hRpa : ∀ p ∈ ncs R1, p.1 ≠ pa := fun p hp => b8 p (List.mem_filter.mp hp).1
  have O4 : OffCs L (ncs R1) := fun p hp => O3 p (.tail _ hp)
  clear O3 N2 b6 b7 b8 b9 b10 N1 F1
  generalize ncs R1 = R2 at *
  simp only [OffC] at hpa
  have hz0 := off_ne hpa
  have p1 := hz0.1
  have p2 := hz0.2.1
  have p3 := hz0.2.2.1
  have p4 := hz0.2.2.2.1
  have p5 := hz0.2.2.2.2
  have hpl0 : (0 : Int) ≤ 0 := Int.le_refl 0
  k_steps
  rename Fr _ _ _ _ => F4
  rename News _ _ _ _ => N4
  rename Obj.data _ = Data.cell (some (Value.ref pa)) => d1'
  rename _ ∈ strsOf _ => hx1
  refine Stop.mk (id ?_)
  have N5 := to_head N4
  clear N4
  refine wishes_spec (rest := cells5 L _ o2 o3 o4 o5 R2) B F4 X N5 ?_ (.tail _ (.tail _ (.tail _ (.tail _ (.tail _ hcR))))) b5 b3 b4 (by omega) (by omega) (by assumption) (by assumption) T rfl (by ktr_room) ?_
  · intro q hq
    rcases List.mem_cons.mp hq with rfl | hq
    · exact hpa.2.2.2.2.symm
    · rcases List.mem_cons.mp hq with rfl | hq
      · exact hpa.2.2.2.1.symm
      · rcases List.mem_cons.mp hq with rfl | hq
        · exact hpa.2.2.1.symm
        · rcases List.mem_cons.mp hq with rfl | hq
          · exact hpa.2.1.symm
          · rcases List.mem_cons.mp hq with rfl | hq
            · exact hpa.1.symm
            · exact hRpa q hq
  intro fl h2 tk2 g2 st2 pl2 tg2 ts2 tp2 wv wis R3 nf c1 c2 c3 c4 c5 c6 c7 c8 c9 c10 c11 c12 c13 F5 N5'
  obtain ⟨N6, O6⟩ := renorm (X := [(fl, PySem.W.listOf wv.toArray nf), (pa, poolO ca g2 st2 pl2 tg2 ts2 tp2 0)]) (by intro p hp; rcases List.mem_cons.mp hp with rfl | hp; rfl; rw [List.mem_singleton.mp hp]; rfl) N5' c8 d1' d2 d3 d4 d5
  simp only [List.cons_append, List.nil_append] at N6 O6
  clear N5 N5' F4
  k_steps
  rename Fr _ _ _ _ => F7
  rename News _ _ _ _ => N7
  refine Stop.mk (id ?_)
  have hwA := wishes_ncs c5
  refine all_spec B F7 X N7 ?_ (.tail _ (.tail _ (.tail _ (.tail _ (.tail _ (.head _)))))) (hwA.mono fun p hp => .tail _ (.tail _ (.tail _ (.tail _ (.tail _ (.tail _ (.tail _ hp))))))) (by rw [hwA.length]; omega) (fun x hx => ⟨lawTags4 (c7 x hx).1, (c7 x hx).2⟩) T rfl (by ktr_room) ?_
  · rcases List.mem_cons.mp hx1 with hh | hh
    · exact .inl hh
    · exact .inr (List.mem_singleton.mp hh)
  intro h3 tk3 d od R4 ws hkx hFI F8 N8 hds hdn
  have hpn : (pa, poolO ca g2 st2 pl2 tg2 ts2 tp2 0) ∈ (d, od) :: R4 := by
    obtain ⟨od₁, R₁, e, f1, f2, f3, f4, f5, f6, f7⟩ := hFI
    cases e
    exact .tail _ (f5 _ (.tail _ (.tail _ (.tail _ (.tail _ (.tail _ (.tail _ (.head _))))))))
  obtain ⟨hWI, hsub⟩ := fi_wants hFI hds N8 hpn
  obtain ⟨N9, hpa2, O9, hne9⟩ := renorm2 N8 (fun p hp => .tail _ (hsub p hp)) hpn rfl d1' d2 d3 d4 d5
  have hW9 : WishesAre w (nps pa ((d, od) :: R4)) wv wis := wishes_nps N8 hpn (hwA.mono fun p hp => .tail _ (hsub _ (.tail _ (.tail _ (.tail _ (.tail _ (.tail _ (.tail _ (.tail _ hp)))))))))
  have hfl9 : (fl, PySem.W.listOf wv.toArray nf) ∈ nps pa ((d, od) :: R4) := mem_nps (.tail _ (hsub _ (.tail _ (.tail _ (.tail _ (.tail _ (.tail _ (.head _)))))))) rfl (Nat.ne_of_gt c12)
  have hca9 : (ca, PySem.W.listOf vs1.toArray nc1) ∈ nps pa ((d, od) :: R4) := mem_nps (.tail _ (hsub _ (.tail _ (.tail _ (.tail _ (.tail _ (.tail _ (.tail _ (.tail _ (mem_ncs (c8 _ (.tail _ (.tail _ (.tail _ (.tail _ (.tail _ hcR)))))) rfl)))))))))) rfl b5
  clear hpn hsub hFI N8 N7 O6 hdn
  generalize nps pa ((d, od) :: R4) = R9 at *
  simp only [OffC] at hpa2
  clear p1 p2 p3 p4 p5
  have hz1 := off_ne hpa2
  have p1 := hz1.1
  have p2 := hz1.2.1
  have p3 := hz1.2.2.1
  have p4 := hz1.2.2.2.1
  have p5 := hz1.2.2.2.2
  k_steps
  rename Fr _ _ _ _ => F10
  rename News _ _ _ _ => N10
  rename Obj.data _ = Data.cell (some (Value.ref d)) => d2'
  exact next _ _ _ (.mk c1 c2 c3 (by omega) b3 b4 b5 hca9 hpa2 O9 hne9 d1' d2' hfl9 hW9 c6 c7 hWI hkx F10 (by with_unfolding_all rfl) N10)
end
/-! sorted lists -/
def sle (a b : Str) : Prop := a.cps.toList ≤ b.cps.toList
theorem sle_of {a b : Str} (h : ltCps b.cps.toList a.cps.toList = false) : sle a b := by
  rw [ltCps_eq] at h
  exact List.not_lt.mp (of_decide_eq_false h)
theorem rising_pair : ∀ {l : List Str} {p : Str}, risingS p l = true → (p :: l).Pairwise sle
  | [], p, _ => List.pairwise_singleton _ _
  | x :: r, p, h => by
    have h' : (!ltCps x.cps.toList p.cps.toList && risingS x r) = true := h
    rw [Bool.and_eq_true_iff, Bool.not_eq_true'] at h'
    have ih := rising_pair h'.2
    have h1 := sle_of h'.1
    refine List.pairwise_cons.mpr ⟨?_, ih⟩
    intro y hy
    rcases List.mem_cons.mp hy with rfl | hy
    · exact h1
    · exact List.le_trans h1 ((List.pairwise_cons.mp ih).1 y hy)
theorem sorted_pair {l : List Str} (h : sortedS l = true) : l.Pairwise sle := by
  cases l with
  | nil => exact .nil
  | cons x r => exact rising_pair h
theorem sle_anti {a b : Str} (h : sle a b) (h' : sle b a) : a = b := by
  have e : a.cps.toList = b.cps.toList := List.le_antisymm h h'
  cases a; cases b
  simp only [Str.mk.injEq]
  exact Array.toList_inj.mp e
theorem pair_uniq {a b : List Str} (ha : a.Pairwise sle) (hb : b.Pairwise sle) (hp : a.Perm b) : a = b :=
  List.Perm.eq_of_pairwise (fun _ _ _ _ => sle_anti) ha hb hp

/-! the wanted features -/
def okW (x : WD) : Prop := 0 ≤ x.v ∧ x.v ≤ x.m ∧ x.m ≤ 9 ∧ (x.s = true → 1 ≤ x.m)
def okT (T : List (Str × WD)) : Prop := (T.map (·.1)).Nodup ∧ ∀ p ∈ T, okW p.2
def wtD (x : WD) : Int := if x.own = false ∧ x.v = 1 then 0 else if x.own = true ∨ 1 < x.v then blen (if x.own = true then x.m else x.v) else 0
def totT (T : List (Str × WD)) : Int := (T.map fun p => wtD p.2).sum

theorem first_ok (ar b : Bool) : okT (firstT ar b) ∧ totT (firstT ar b) ≤ 5 ∧ (firstT ar b).length ≤ 30 := by
  unfold okT okW
  cases ar <;> cases b <;> decide +kernel

theorem wtD_le {x : WD} (h : okW x) : 0 ≤ wtD x ∧ wtD x ≤ 4 := by
  obtain ⟨h1, h2, h3, _⟩ := h
  have a := bits_small (Int.le_trans h1 h2) h3
  have b := bits_small h1 (Int.le_trans h2 h3)
  unfold wtD
  have z : (0 : Int) ≤ 0 ∧ (0 : Int) ≤ 4 := by decide
  split
  · exact z
  · split
    · split
      · exact a
      · exact b
    · exact z

theorem wish_ok {x : WD} {i : WI} (h : okW x) (h0 : 0 ≤ i.v) (h9 : i.v ≤ 9) : okW (x.wish i) := by
  obtain ⟨h1, h2, h3, h4⟩ := h
  have a1 : i.v ≤ (if i.v > x.m then i.v else x.m) := by
    split
    · exact Int.le_refl _
    · rename_i h; exact Int.not_lt.mp h
  have a2 : x.m ≤ (if i.v > x.m then i.v else x.m) := by
    split
    · rename_i h; exact Int.le_of_lt h
    · exact Int.le_refl _
  have a3 : (if i.v > x.m then i.v else x.m) ≤ 9 := by
    split
    · exact h9
    · exact h3
  unfold WD.wish
  split
  · exact ⟨h0, a1, a3, fun h => by cases h⟩
  · exact ⟨h1, Int.le_trans h2 a2, a3, fun hs => Int.le_trans (h4 hs) a2⟩

theorem lookT_mem {T : List (Str × WD)} {k : Str} {x : WD} (h : lookT T k = some x) : (k, x) ∈ T := by
  unfold lookT at h
  cases hf : T.find? (fun p => decide (p.1 = k)) with
  | none => rw [hf] at h; cases h
  | some p =>
    rw [hf] at h
    have e : p.2 = x := Option.some.inj h
    have h1 := List.mem_of_find?_eq_some hf
    have h2 : p.1 = k := by simpa using List.find?_some hf
    rw [← e, ← h2]
    exact h1

theorem put_keys {T : List (Str × WD)} {k : Str} {x : WD} (h : k ∈ T.map (·.1)) : (T.map fun p => if p.1 = k then (k, x) else p).map (·.1) = T.map (·.1) := by
  rw [List.map_map]
  apply List.map_congr_left
  intro p _
  show (if p.1 = k then (k, x) else p).1 = p.1
  split
  · rename_i e; exact e.symm
  · rfl
theorem put_ok {T : List (Str × WD)} {k : Str} {x : WD} (h : okT T) (hx : okW x) : okT (putT T k x) := by
  unfold putT
  split
  · rename_i hk
    refine ⟨by rw [put_keys hk]; exact h.1, ?_⟩
    intro p hp
    obtain ⟨q, hq, rfl⟩ := List.mem_map.mp hp
    split
    · exact hx
    · exact h.2 q hq
  · rename_i hk
    refine ⟨?_, ?_⟩
    · rw [List.map_append, List.nodup_append]
      refine ⟨h.1, by simp, ?_⟩
      intro a ha b hb e
      rw [List.map_singleton, List.mem_singleton] at hb
      rw [e, hb] at ha
      exact hk ha
    · intro p hp
      rcases List.mem_append.mp hp with hp | hp
      · exact h.2 p hp
      · rw [List.mem_singleton.mp hp]; exact hx
theorem map_id_of {T : List (Str × WD)} {k : Str} {x : WD} (h : k ∉ T.map (·.1)) : (T.map fun p => if p.1 = k then (k, x) else p) = T := by
  rw [List.map_congr_left (g := id), List.map_id]
  intro p hp
  rw [if_neg]
  · rfl
  · intro e; exact h (by rw [← e]; exact List.mem_map_of_mem hp)
theorem tot_map {T : List (Str × WD)} {k : Str} {x : WD} (hn : (T.map (·.1)).Nodup) (h : ∀ p ∈ T, 0 ≤ wtD p.2) (hx : 0 ≤ wtD x ∧ wtD x ≤ 4) : totT (T.map fun p => if p.1 = k then (k, x) else p) ≤ totT T + 4 := by
  induction T with
  | nil => show (0 : Int) ≤ 0 + 4; omega
  | cons p T ih =>
    rw [List.map_cons, List.nodup_cons] at hn
    have hp := h p (.head _)
    by_cases e : p.1 = k
    · rw [List.map_cons, if_pos e, map_id_of (by rw [← e]; exact hn.1)]
      show wtD x + totT T ≤ wtD p.2 + totT T + 4
      omega
    · rw [List.map_cons, if_neg e]
      have := ih hn.2 fun q hq => h q (.tail _ hq)
      show wtD p.2 + totT (T.map _) ≤ wtD p.2 + totT T + 4
      omega
theorem tot_put {T : List (Str × WD)} {k : Str} {x : WD} (h : okT T) (hx : okW x) : totT (putT T k x) ≤ totT T + 4 ∧ (putT T k x).length ≤ T.length + 1 := by
  have hx2 := wtD_le hx
  unfold putT
  split
  · exact ⟨tot_map h.1 (fun p hp => (wtD_le (h.2 p hp)).1) hx2, by simp⟩
  · refine ⟨?_, by simp⟩
    unfold totT
    rw [List.map_append, List.sum_append]
    simp only [List.map_cons, List.map_nil, List.sum_cons, List.sum_nil]
    omega
theorem base_ok {T : List (Str × WD)} (h : okT T) (k : Str) : okW ((lookT T k).getD ⟨0, 0, false, false⟩) := by
  cases e : lookT T k with
  | none => exact ⟨Int.le_refl _, Int.le_refl _, by decide, fun h => by cases h⟩
  | some x => exact h.2 _ (lookT_mem e)
theorem fold_ok : ∀ (wis : List WI) (T : List (Str × WD)), okT T → (∀ x ∈ wis, 0 ≤ x.v ∧ x.v ≤ 9) → okT (wis.foldl applyW T) ∧ totT (wis.foldl applyW T) ≤ totT T + 4 * wis.length ∧ (wis.foldl applyW T).length ≤ T.length + wis.length
  | [], T, h, _ => ⟨h, by simp, by simp⟩
  | i :: r, T, h, hi => by
    have h1 := hi i (.head _)
    have hw := wish_ok (base_ok h i.tag) h1.1 h1.2
    have hp := tot_put (k := i.tag) h hw
    obtain ⟨a, b, c⟩ := fold_ok r (applyW T i) (put_ok h hw) fun x hx => hi x (.tail _ hx)
    simp only [List.foldl_cons, List.length_cons]
    have e1 : totT (applyW T i) ≤ totT T + 4 := hp.1
    have e2 : (applyW T i).length ≤ T.length + 1 := hp.2
    refine ⟨a, ?_, ?_⟩
    · rw [Int.natCast_add]; omega
    · omega

theorem final_ok {wis : List WI} (ar b : Bool) (hl : wis.length ≤ 5) (hi : ∀ x ∈ wis, 0 ≤ x.v ∧ x.v ≤ 9) : okT (wis.foldl applyW (firstT ar b)) ∧ totT (wis.foldl applyW (firstT ar b)) ≤ 25 ∧ (wis.foldl applyW (firstT ar b)).length < 64 := by
  obtain ⟨a, b', c⟩ := first_ok ar b
  obtain ⟨d, e, f⟩ := fold_ok wis _ a hi
  exact ⟨d, by omega, by omega⟩

/-! the shift -/
def wtS (ws : List WE) (t : Str) : Int := match lookW ws t with
  | none => 0
  | some e => wtD e.x
theorem soStep_wt (ws : List WE) (st : SO) (t : Str) : (soStep ws st t).S = st.S + wtS ws t := by
  unfold soStep wtS
  cases lookW ws t with
  | none => simp
  | some e =>
    unfold wtD
    simp only
    split
    · simp
    · split
      · rfl
      · simp
theorem fold_wt (ws : List WE) : ∀ (l : List Str) (st : SO), (l.foldl (soStep ws) st).S = st.S + (l.map (wtS ws)).sum
  | [], st => by simp
  | t :: l, st => by
    rw [List.foldl_cons, fold_wt ws l, soStep_wt, List.map_cons, List.sum_cons]
    omega
def totE (ws : List WE) : Int := (ws.map fun e => wtD e.x).sum
theorem totE_kx (ws : List WE) : totE ws = totT (kx ws) := by
  unfold totE totT kx
  rw [List.map_map]
  rfl
theorem look_filter {ws : List WE} {t t' : Str} (h : t' ≠ t) : lookW (ws.filter fun e => decide (e.k ≠ t)) t' = lookW ws t' := by
  unfold lookW
  rw [List.find?_filter]
  congr 1
  funext e
  by_cases h1 : e.k = t'
  · simp [h1, h]
  · simp [h1]
theorem tot_filter {ws : List WE} {t : Str} (hw : ∀ e ∈ ws, 0 ≤ wtD e.x) : totE (ws.filter fun e => decide (e.k ≠ t)) + wtS ws t ≤ totE ws ∧ 0 ≤ totE ws := by
  induction ws with
  | nil => exact ⟨by show (0 : Int) + 0 ≤ 0; omega, Int.le_refl _⟩
  | cons e ws ih =>
    have h1 := ih fun x hx => hw x (.tail _ hx)
    have h0 := hw e (.head _)
    have et : totE (e :: ws) = wtD e.x + totE ws := rfl
    by_cases hk : e.k = t
    · rw [List.filter_cons_of_neg (by simp [hk]), et]
      have hs : wtS (e :: ws) t = wtD e.x := by
        unfold wtS lookW
        rw [List.find?_cons_of_pos (by simp [hk])]
      have hn : 0 ≤ wtS ws t := by
        unfold wtS
        split
        · exact Int.le_refl _
        · rename_i x hx
          exact hw x (.tail _ (lookW_mem hx).1)
      rw [hs]
      omega
    · rw [List.filter_cons_of_pos (by simp [hk]), et]
      have hs : wtS (e :: ws) t = wtS ws t := by
        unfold wtS lookW
        rw [List.find?_cons_of_neg (by simp [hk])]
      rw [hs]
      have e2 : totE (e :: ws.filter fun e => decide (e.k ≠ t)) = wtD e.x + totE (ws.filter fun e => decide (e.k ≠ t)) := rfl
      rw [e2]
      omega
theorem sum_wt_le : ∀ (l : List Str) (ws : List WE), (∀ e ∈ ws, 0 ≤ wtD e.x) → l.Nodup → (l.map (wtS ws)).sum ≤ totE ws
  | [], ws, hw, _ => by
    have := (tot_filter (t := default) hw).2
    simpa using this
  | t :: l, ws, hw, hn => by
    rw [List.nodup_cons] at hn
    have h1 := sum_wt_le l (ws.filter fun e => decide (e.k ≠ t)) (fun e he => hw e (List.mem_filter.mp he).1) hn.2
    have h2 := (tot_filter (t := t) hw).1
    have e : l.map (wtS (ws.filter fun e => decide (e.k ≠ t))) = l.map (wtS ws) := by
      apply List.map_congr_left
      intro t' ht'
      have hne : t' ≠ t := fun e => hn.1 (e ▸ ht')
      unfold wtS
      rw [look_filter hne]
    rw [List.map_cons, List.sum_cons]
    rw [e] at h1
    omega
theorem okE {ws : List WE} (h : okT (kx ws)) : ∀ e ∈ ws, okW e.x := fun e he => h.2 (e.k, e.x) (List.mem_map.mpr ⟨e, he, rfl⟩)
theorem small_ok {ws : List WE} (h : okT (kx ws)) : Small ws := by
  intro e he
  obtain ⟨a, b, c, _⟩ := okE h e he
  exact ⟨a, by omega, by omega, c⟩
theorem S31 {ws : List WE} (h : okT (kx ws)) (ht : totT (kx ws) ≤ 25) {l : List Str} (hn : l.Nodup) : (soRun ws l).S ≤ 31 := by
  have h1 := sum_wt_le l ws (fun e he => (wtD_le (okE h e he)).1) hn
  unfold soRun
  rw [fold_wt, totE_kx] at *
  show 1 + _ ≤ (31 : Int)
  omega
theorem soStep_ms (ws : List WE) (st : SO) (t : Str) : (soStep ws st t).ms = st.ms ∨ ∃ x y, (soStep ws st t).ms = st.ms ++ [(t, x, y)] := by
  unfold soStep
  cases lookW ws t with
  | none => exact .inl rfl
  | some e =>
    simp only
    split
    · exact .inr ⟨_, _, rfl⟩
    · split
      · exact .inr ⟨_, _, rfl⟩
      · exact .inl rfl
theorem fold_sub (ws : List WE) : ∀ (l l0 : List Str) (st : SO), (st.ms.map (·.1)).Sublist l0 → ((l.foldl (soStep ws) st).ms.map (·.1)).Sublist (l0 ++ l)
  | [], l0, st, h => by simpa using h
  | t :: l, l0, st, h => by
    have e : l0 ++ t :: l = (l0 ++ [t]) ++ l := by simp
    rw [List.foldl_cons, e]
    refine fold_sub ws l _ _ ?_
    rcases soStep_ms ws st t with h1 | ⟨x, y, h1⟩
    · rw [h1]; exact h.trans (List.sublist_append_left _ _)
    · rw [h1, List.map_append]; exact List.Sublist.append h (List.Sublist.refl _)
theorem soRun_sub (ws : List WE) (l : List Str) : ((soRun ws l).ms.map (·.1)).Sublist l := fold_sub ws l [] _ (List.Sublist.refl _)
inductive StB (prog : Program) (w : World) (base : Heap) (L : Addr) (o4 o5 : Obj) (h : Heap) (m : Str → Option Value) : Prop
  | mk {o1 o2 o3 : Obj} {v1 : Option Value} {fl d tl : Addr} {nf nt : Nat} {wv : List Value} {wis : List WI} {ws : List WE} {tv : List Value} {ts : List Str} {R : List (Addr × Obj)} {ar b : Bool}
    (hO : OffCs L R) (d1 : o1.data = .cell v1) (d2 : o2.data = .cell (some (.ref d))) (d3 : o3.data = .cell (some (.ref tl)))
    (hfl : (fl, PySem.W.listOf wv.toArray nf) ∈ R) (hw : WishesAre w R wv wis) (hwl : wis.length ≤ 5) (hwi : ∀ x ∈ wis, x.tag ∈ lawTags ∧ 0 ≤ x.v ∧ x.v ≤ 9)
    (hWI : WantsIn prog w R d ws) (hk : kx ws = wis.foldl applyW (firstT ar b)) (htl : (tl, PySem.W.listOf tv.toArray nt) ∈ R) (hts : StrsAre tv ts) (hnd : ts.Nodup) (hsub : ∀ t ∈ ts, t ∈ ws.map (·.k)) (hlen : ts.length < 64) (hwsl : ws.length < 64)
    (F : Fr base L h m) (hm : m (Str.ofString "wishes") = some (.ref fl))
    (N : News base L h (cells5 L o1 o2 o3 o4 o5 R)) : StB prog w base L o4 o5 h m

theorem wantsIn_mono {prog : Program} {w : World} {R R' : List (Addr × Obj)} {d : Addr} {ws : List WE} (h : WantsIn prog w R d ws) (hs : ∀ p ∈ R, p ∈ R') : WantsIn prog w R' d ws := by
  obtain ⟨a, ⟨od, b1, b2⟩, c⟩ := h
  exact ⟨a, ⟨od, hs _ b1, b2⟩, fun e he => ⟨hs _ (c e he).1, let ⟨t, ht⟩ := (c e he).2; ⟨t, hs _ ht⟩⟩⟩
theorem wantsIn_ncs {prog : Program} {w : World} {R : List (Addr × Obj)} {d : Addr} {ws : List WE} (h : WantsIn prog w R d ws) : WantsIn prog w (ncs R) d ws := by
  obtain ⟨a, ⟨od, b1, b2⟩, c⟩ := h
  exact ⟨a, ⟨od, mem_ncs b1 (nc_dict b2), b2⟩, fun e he => ⟨mem_ncs (c e he).1 rfl, let ⟨t, ht⟩ := (c e he).2; ⟨t, mem_ncs ht rfl⟩⟩⟩
theorem dict_nodup {prog : Program} {w : World} {o : Obj} {kvs : List (Str × Value)} (h : o.IsDictOf (PySem.strKind prog w) kvs) : (kvs.map (·.1)).Nodup := by
  obtain ⟨_, _, _, _, _, _, hn⟩ := h
  exact hn
theorem keys_ws (ws : List WE) : (ws.map fun e => (e.k, Value.ref e.a)).map (·.1) = ws.map (·.k) := by rw [List.map_map]; rfl
theorem strsAre_snoc {vs : List Value} {ss : List Str} (h : StrsAre vs ss) (x : Str) (t : Tok) : StrsAre (vs ++ [.str x t]) (ss ++ [x]) := by
  induction h with
  | nil => exact .cons x t .nil
  | cons y u _ ih => exact .cons y u ih
theorem sub_take_succ {α : Type} {ys ss : List α} {i : Nat} {x : α} (h : ys.Sublist (ss.take i)) (hx : ss[i]? = some x) : (ys ++ [x]).Sublist (ss.take (i + 1)) := by
  rw [List.take_add_one, hx]
  exact List.Sublist.append h (List.Sublist.refl _)
theorem sub_take_skip {α : Type} {ys ss : List α} {i : Nat} (h : ys.Sublist (ss.take i)) : ys.Sublist (ss.take (i + 1)) :=
  h.trans (List.take_sublist_take_left (Nat.le_succ i))

theorem pl_up {a : Int} {i : Nat} (h0 : 0 ≤ a) (h1 : a ≤ 1000 + i) : 0 ≤ a + 1 ∧ a + 1 ≤ 1000 + ((i + 1 : Nat) : Int) := by omega
theorem pl_hi {a : Int} {i n : Nat} (h1 : a ≤ 1000 + i) (h2 : i < n) (h3 : n ≤ 64) : a ≤ 100000 := by omega
set_option hygiene false in
local macro_rules | `(tactic| walk_at "CompEnd") => `(tactic| (k_here; refine Stop.mk ?_))
set_option hygiene false in
local macro_rules | `(tactic| walk_at "call builtin:sorted") => `(tactic| (k_here; (with_reducible show wpAny _ _ (call (Value.builtin "sorted") [Value.ref _]) _ _ _); refine Stop.mk ?_))
section
set_option hygiene false in
local macro_rules | `(tactic| walk_at "eval ListComp") => `(tactic| (k_here; k_dflt (refine LCt.ListComp_T (F₀ := by k_asm) (by with_unfolding_all rfl) (by decide) (by rfl) (by decide) (by rfl) ?_)))
set_option hygiene false in
local macro_rules | `(tactic| walk_at "CompSrcT") => `(tactic| (k_here; refine Stop.mk ?_))

set_option maxHeartbeats 4000000 in
theorem segB {prog : Program} {w : World} {p : Program} {loose : List Str} {mean : ExcName → Option Value} {mg mb : Str → Option Value} {base : Heap} {L la : Addr} {cd : Value} {m : Str → Option Value} {s : Shared} {Q : Flow → Shared → Prop} {E : Value → Shared → Prop}
    {o3 o4 o5 : Obj}
    (B : Below callerA base [] base) (X : (hd.heap_39 w.params).In base) (T : Top p loose mean mg mb base)
    (hA : StA prog w base L o3 o4 o5 s.heap m)
    (d3 : o3.data = .cell none) (d4 : o4.data = .cell none) (d5 : o5.data = .cell none)
    (next : ∀ h tk m', StB prog w base L o4 o5 h m' → wpAny (model prog w) (callerA.deeper (lawEnv L la cd)) (execs (lawBody.drop 5) (lawEnv L la cd)) Q E { s with heap := h, toks := tk }) :
    wpAny (model prog w) (callerA.deeper (lawEnv L la cd)) (execs (lawBody.drop 4) (lawEnv L la cd)) Q E s := by
  with_unfolding_all change wpAny _ _ (execs (_ :: lawBody.drop 5) _) _ _ _
  generalize lawBody.drop 5 = rest at next ⊢
  simp only [lawEnv] at *
  rw [show lawScope = { kind := _, names := _, isGenerator := _, isCoroutine := _, more := _ } from by with_unfolding_all rfl] at next ⊢
  obtain @⟨o1, o2, pa, ca, fl, d, g, st, pl, tg, ts, tp, nc, nf, pvs, pns, wv, wis, ws, R, ar, b, hst, hst2, hpl, hpl2, hi, hb, hca, hc, hpa, hO, hR, d1, d2, hfl, hw, hwl, hwi, hWI, hk, F, hm, N⟩ := hA
  obtain ⟨hds, ⟨od, hod, hdd⟩, hWE⟩ := id hWI
  have F0 := fr_known F [(_, _)] ⟨hm, trivial⟩
  simp only [known] at F0
  clear F
  simp only [OffC] at hpa
  have hz0 := off_ne hpa
  have p1 := hz0.1
  have p2 := hz0.2.1
  have p3 := hz0.2.2.1
  have p4 := hz0.2.2.2.1
  have p5 := hz0.2.2.2.2
  k_steps
  rename Fr _ _ _ _ => F1
  rename News _ _ _ _ => N1
  refine Stop.mk (id ?_)
  have hwsl : ws.length < 64 := by
    have := (final_ok ar b hwl fun x hx => (hwi x hx).2).2.2
    rw [← hk] at this
    simpa [kx] using this
  refine sorted_dict (by rfl) F1 N1 (.tail _ (.tail _ (.tail _ (.tail _ (.tail _ (.tail _ hod)))))) hdd hds (by simpa using hwsl) ?_
  intro SD h1 tk1 sv ss e1 F2 N2 hlt1 hsv hss hsort
  have hlv := hsv.length
  have hpaSD : @LT.lt Nat _ pa SD := hlt1 (pa, _) (.tail _ (.tail _ (.tail _ (.tail _ (.tail _ (.head _))))))
  have hpaSD2 : SD ≠ pa := Ne.symm (Nat.ne_of_lt hpaSD)
  have hls := hss.length_eq
  simp only [List.length_map] at hls
  refine LCt.CompSrcT.ledger (by rfl) F2 N2 (.head _) (by rw [PySem.sizeLine_eq]; simp only [List.size_toArray]; omega)
    (fun g => rest_T (fun i ys nx => ∃ g st pl tg ts tp yss, nx = (SD, PySem.W.listOf sv.toArray e1) :: cells5 L o1 o2 o3 o4 o5 ((pa, poolO ca g st pl tg ts tp 0) :: R) ∧ StrsAre ys yss ∧ yss.Sublist (ss.take i) ∧ 0 ≤ st ∧ st < 2147483647 ∧ 0 ≤ pl ∧ pl ≤ 1000 + i) ?_ ?_ _ 0 [] _ (Nat.zero_add _)
      ⟨_, _, _, _, _, _, [], rfl, .nil, List.nil_sublist _, hst, hst2, hpl, by omega⟩)
  · rintro ys nx ⟨g3, st3, pl3, tg3, ts3, tp3, yss, rfl, k1, k2, k3, k4, k5, k6⟩
    intro D h5 tk5 F5 N5 off5
    simp only [LCg.Off1] at off5
    have hcSD : @LT.lt Nat _ (L + 1 + 1 + 1) SD := hlt1 (L + 1 + 1 + 1, _) (.tail _ (.tail _ (.head _)))
    have hcSD2 : SD ≠ L + 1 + 1 + 1 := Ne.symm (Nat.ne_of_lt hcSD)
    have hz1 := off5
    have oa1 := hz1.1
    have oa2 := hz1.2.1
    have oa3 := hz1.2.2.1
    have oa4 := hz1.2.2.2.1
    have oa5 := hz1.2.2.2.2.1
    have oa6 := hz1.2.2.2.2.2.1
    have oa7 := hz1.2.2.2.2.2.2.1
    have oa8 := hz1.2.2.2.2.2.2.2
    k_steps
    rename Fr _ _ _ _ => F6
    rename News _ _ _ _ => N6
    rename Obj.data _ = Data.cell (some (Value.ref D)) => d3'
    obtain ⟨N7, O7⟩ := renorm (X := [(D, LCg.lst ys)]) (R := (SD, PySem.W.listOf sv.toArray e1) :: cells5 L o1 o2 _ o4 o5 ((pa, poolO ca g3 st3 pl3 tg3 ts3 tp3 0) :: R)) (by intro p hp; rw [List.mem_singleton.mp hp]; rfl) N6 (fun p hp => .tail _ hp) d1 d2 d3' d4 d5
    have up : ∀ o, ∀ p ∈ R, p ∈ (SD, PySem.W.listOf sv.toArray e1) :: cells5 L o1 o2 o o4 o5 ((pa, poolO ca g3 st3 pl3 tg3 ts3 tp3 0) :: R) := fun _ p hp => .tail _ (.tail _ (.tail _ (.tail _ (.tail _ (.tail _ (.tail _ hp))))))
    have hsubl : yss.Sublist ss := k2.trans (List.take_sublist _ _)
    have hnd : (ws.map (·.k)).Nodup := by rw [← keys_ws]; exact dict_nodup hdd
    have hss2 : ss.Perm (ws.map (·.k)) := by rw [← keys_ws]; exact hss
    have hl5 := hsubl.length_le
    exact next _ _ _ (.mk (R := (D, LCg.lst ys) :: ncs _) O7 d1 d2 d3' (.tail _ (mem_ncs (up _ _ hfl) rfl)) ((wishes_ncs (hw.mono (up _))).mono fun p hp => .tail _ hp) hwl hwi (wantsIn_mono (wantsIn_ncs (wantsIn_mono hWI (up _))) fun p hp => .tail _ hp) hk (.head _) k1
      ((hss2.nodup_iff.mpr hnd).sublist hsubl) (fun t ht => hss2.mem_iff.mp (hsubl.subset ht)) (by omega) hwsl F6 (by with_unfolding_all rfl) N7)
  · rintro i ys nx v I oI C oC D m₂ h2 tk2 E' hin ⟨g3, st3, pl3, tg3, ts3, tp3, yss, rfl, k1, k2, k3, k4, k5, k6⟩ hv hoC hmx F3 N3 off3 ne3
    simp only [LCg.Off3] at off3
    obtain ⟨x, t, rfl, hx⟩ := strsAre_get hsv (i := i) (v := v) (by simpa using hv)
    have hpl6 : pl3 ≤ 100000 := pl_hi (n := sv.length) k6 (by simpa using hin) (by rw [hlv]; omega)
    have hz2 := pl_up k5 k6
    have q1 := hz2.1
    have q2 := hz2.2
    have hz3 := off3.2.2.2.2.2.2.1
    have pi1 := hz3.1
    have pi2 := hz3.2.1
    have pi3 := hz3.2.2
    k_steps
    · rename Fr _ _ _ _ => F6
      rename News _ _ _ _ => N6
      refine Stop.mk (id ?_)
      exact ⟨_, _, _, rfl, F6, N6, off3, .inr ⟨_, .head _, rfl, _, rfl⟩, _, _, _, _, _, _, yss ++ [x], rfl, strsAre_snoc k1 x t, sub_take_succ k2 hx, by assumption, by assumption, q1, q2⟩
    · rename Fr _ _ _ _ => F6
      rename News _ _ _ _ => N6
      refine Stop.mk (id ?_)
      exact ⟨_, _, _, rfl, F6, N6, off3, .inr ⟨_, .head _, rfl, _, rfl⟩, _, _, _, _, _, _, yss, rfl, k1, sub_take_skip k2, by assumption, by assumption, q1, q2⟩
end
inductive StC (prog : Program) (w : World) (base : Heap) (L : Addr) (o5 : Obj) (h : Heap) (m : Str → Option Value) : Prop
  | mk {o1 o2 o3 o4 om : Obj} {v1 : Option Value} {fl d tl dm : Addr} {nf nt : Nat} {wv : List Value} {wis : List WI} {ws : List WE} {tv : List Value} {ts ss : List Str} {kvs : List (Str × Value)} {R : List (Addr × Obj)} {ar b : Bool} {tD : Tok}
    (hO : OffCs L R) (d1 : o1.data = .cell v1) (d2 : o2.data = .cell (some (.ref d))) (d3 : o3.data = .cell (some (.ref tl))) (d4 : o4.data = .cell (some (.ref dm)))
    (hfl : (fl, PySem.W.listOf wv.toArray nf) ∈ R) (hw : WishesAre w R wv wis) (hwl : wis.length ≤ 5) (hwi : ∀ x ∈ wis, x.tag ∈ lawTags ∧ 0 ≤ x.v ∧ x.v ≤ 9)
    (hWI : WantsIn prog w R d ws) (hk : kx ws = wis.foldl applyW (firstT ar b)) (htl : (tl, PySem.W.listOf tv.toArray nt) ∈ R) (hts : StrsAre tv ts) (hnd : ts.Nodup) (hsub : ∀ t ∈ ts, t ∈ ws.map (·.k)) (hlen : ts.length < 64) (hwsl : ws.length < 64)
    (hss : ss.Perm ts) (hsort : sortedS ss = true) (hdm : (dm == sysModules) = false) (hom : (dm, om) ∈ R) (hmd : om.IsDictOf (PySem.strKind prog w) kvs) (hms : MsAre R kvs (soRun ws ss).ms)
    (F : Fr base L h m) (hm : m (Str.ofString "wishes") = some (.ref fl)) (hm2 : m (Str.ofString "defaults") = some (.int (soRun ws ss).D tD))
    (N : News base L h (cells5 L o1 o2 o3 o4 o5 R)) : StC prog w base L o5 h m

theorem lookW_some {ws : List WE} {t : Str} (h : t ∈ ws.map (·.k)) : ∃ e, lookW ws t = some e := by
  obtain ⟨e, he, rfl⟩ := List.mem_map.mp h
  unfold lookW
  cases hf : ws.find? (fun x => decide (x.k = e.k)) with
  | some x => exact ⟨x, rfl⟩
  | none =>
    have := List.find?_eq_none.mp hf e he
    simp at this
theorem msAre_ncs {R : List (Addr × Obj)} {kvs : List (Str × Value)} {ms : List (Str × Int × Int)} (h : MsAre R kvs ms) : MsAre (ncs R) kvs ms := by
  induction h with
  | nil => exact .nil
  | cons h1 _ ih => exact .cons (mem_ncs h1 rfl) ih
theorem strsAre_rev {vs : List Value} {ss : List Str} (h : StrsAre vs ss) : StrsAre vs.reverse ss.reverse := by
  induction h with
  | nil => exact .nil
  | cons x t _ ih =>
    rw [List.reverse_cons, List.reverse_cons]
    exact strsAre_snoc ih x t
section
variable {prog : Program} {w : World} {A : Around} {E : Value → Shared → Prop} {s : Shared} {h₀ : Heap} {L : Addr} {news : List (Addr × Obj)}
theorem notin_mem {l : Addr} {vs : List Value} {ys : List Str} {k : Str} {t : Tok} {n : Nat} {Q : Value → Shared → Prop} (N : News h₀ L s.heap news) (hm : (l, PySem.W.listOf vs.toArray n) ∈ news) (hi : StrsAre vs ys) (hk : k ∈ ys)
    (h : Q (.bool false) s) : wpAny (model prog w) A (compareOp .NotIn (.str k t) (.ref l)) Q E s := by
  refine notin_list_strs (News.isList N hm) hi ?_
  have : ys.any (· == k) = true := List.any_eq_true.mpr ⟨k, hk, by simp⟩
  rw [this]
  exact h
theorem ne_nil {l b : Addr} {n n' : Nat} {Q : Value → Shared → Prop} (N : News h₀ L s.heap news) (hm : (l, PySem.W.listOf (List.toArray []) n) ∈ news) (hm' : (b, PySem.W.listOf (List.toArray []) n') ∈ news) (hu : A.units < cLine) (h : Q (.bool false) s) :
    wpAny (model prog w) A (compareOp .NotEq (.ref l) (.ref b)) Q E s :=
  SeqAt.RcNeAt.lists (e := fun _ => true) (News.isList N hm) (News.isList N hm') rfl hu (fun j h1 _ => absurd h1 (Nat.not_lt_zero _)) prog w E Q h
end
theorem sublist_map_le {α β : Type} {f : α → β} {l : List α} {r : List β} (h : r.Sublist (l.map f)) : r.length ≤ l.length := by
  have := h.length_le
  simpa using this

set_option hygiene false in
local macro_rules | `(tactic| walk_at "eval ListComp") => `(tactic| (k_here; refine Stop.mk ?_))
set_option hygiene false in
local macro_rules | `(tactic| walk_at "compareOp NotEq ref ref") => `(tactic| (k_here; refine Stop.mk ?_))
section
set_option hygiene false in
local macro_rules | `(tactic| walk_at "SrcD") => `(tactic| (k_here; refine Stop.mk ?_))
set_option hygiene false in
local macro_rules | `(tactic| walk_at "compareOp NotIn str ref") => `(tactic| (k_here; k_dflt (refine' notin_mem (by k_asm) (by k_mem) (by assumption) (by assumption) ?_)))
set_option hygiene false in
local macro_rules | `(tactic| walk_at "subscriptTail Name Slice ref ref") => `(tactic| (k_here; (with_reducible show wpAny _ _ (subscriptTail _ (PySem.Expr.Slice none none (some _) _) (Value.ref _) (Value.ref _)) _ _ _); k_dflt (refine' krv_lit (by k_asm) (by k_asm) (News.isList (by k_asm) (by k_mem)) (IsPart.int _ _) (by rfl) ?_ (by with_unfolding_all rfl) (by kmk_pure) (by (simp only [List.size_toArray, PySem.sizeLine_eq]; omega))); intro D'Z h'Z F'Z N'Z l1Z))

set_option maxHeartbeats 1000000 in
theorem segC {prog : Program} {w : World} {p : Program} {loose : List Str} {mean : ExcName → Option Value} {mg mb : Str → Option Value} {base : Heap} {L la : Addr} {cd : Value} {m : Str → Option Value} {s : Shared} {Q : Flow → Shared → Prop} {E : Value → Shared → Prop}
    {o4 o5 : Obj}
    (B : Below callerA base [] base) (X : (hd.heap_39 w.params).In base) (T : Top p loose mean mg mb base)
    (hA : StB prog w base L o4 o5 s.heap m) (d4 : o4.data = .cell none) (d5 : o5.data = .cell none)
    (next : ∀ h tk m', StC prog w base L o5 h m' → wpAny (model prog w) (callerA.deeper (lawEnv L la cd)) (execs (lawBody.drop 7) (lawEnv L la cd)) Q E { s with heap := h, toks := tk }) :
    wpAny (model prog w) (callerA.deeper (lawEnv L la cd)) (execs (lawBody.drop 5) (lawEnv L la cd)) Q E s := by
  with_unfolding_all change wpAny _ _ (execs (_ :: _ :: lawBody.drop 7) _) _ _ _
  generalize lawBody.drop 7 = rest at next ⊢
  simp only [lawEnv] at *
  rw [show lawScope = { kind := _, names := _, isGenerator := _, isCoroutine := _, more := _ } from by with_unfolding_all rfl] at next ⊢
  obtain @⟨o1, o2, o3, v1, fl, d, tl, nf, nt, wv, wis, ws, tv, ts, R, ar, b, hO, d1, d2, d3, hfl, hw, hwl, hwi, hWI, hk, htl, hts, hnd, hsub, hlen, hwsl, F, hm, N⟩ := hA
  have hfin := final_ok ar b hwl fun x hx => (hwi x hx).2
  rw [← hk] at hfin
  have hlv := hts.length
  have F0 := fr_known F [(_, _)] ⟨hm, trivial⟩
  simp only [known] at F0
  clear F
  k_steps
  rename Fr _ _ _ _ => F1
  rename News _ _ _ _ => N1
  refine Stop.mk (id ?_)
  have up5 : ∀ {o1 o2 o3 o4 o5 : Obj} {R : List (Addr × Obj)}, ∀ p ∈ R, p ∈ cells5 L o1 o2 o3 o4 o5 R := fun p hp => .tail _ (.tail _ (.tail _ (.tail _ (.tail _ hp))))
  refine so_spec B F1 X N1 (wantsIn_mono hWI up5) (up5 _ htl) hts (by omega) hnd (fun t ht => lookW_some (hsub t ht)) (small_ok hfin.1) T rfl (by ktr_room) (fun l hl => S31 hfin.1 hfin.2.1 (hl.nodup_iff.mpr hnd)) ?_
  intro h1 tk1 rt dm om kvs R1 ss tD hss hsort F2 N2 s1 s2 s3 s4 hdm hmd hms
  obtain ⟨N3, O3⟩ := renorm (X := [(rt, { cls := .type "tuple", data := .seq (List.toArray [Value.ref dm, Value.int (soRun ws ss).D tD]) 0 }), (dm, om)]) (by intro p hp; rcases List.mem_cons.mp hp with rfl | hp; rfl; rw [List.mem_singleton.mp hp]; exact nc_dict hmd) N2 s1 d1 d2 d3 d4 d5
  simp only [List.cons_append, List.nil_append] at N3 O3
  have htl1 := mem_ncs (s1 _ (up5 _ htl)) rfl
  have hfl1 := mem_ncs (s1 _ (up5 _ hfl)) rfl
  have hw1 : WishesAre w (ncs R1) wv wis := wishes_ncs (hw.mono fun p hp => s1 _ (up5 _ hp))
  have hWI1 : WantsIn prog w (ncs R1) d ws := wantsIn_ncs (wantsIn_mono hWI fun p hp => s1 _ (up5 _ hp))
  have hms1 := msAre_ncs hms
  clear N2 N1 F1 hms hWI hw hfl htl hO s1 s2 s3 s4
  generalize ncs R1 = R2 at *
  k_steps
  rename Fr _ _ _ _ => F4
  rename News _ _ _ _ => N4
  rename Obj.data _ = Data.cell (some (Value.ref dm)) => d4'
  refine Stop.mk (id ?_)
  have up6 : ∀ {a b1 b2 : Addr × Obj} {o1 o2 o3 o4 o5 : Obj} {R : List (Addr × Obj)}, ∀ p ∈ R, p ∈ a :: cells5 L o1 o2 o3 o4 o5 (b1 :: b2 :: R) := fun p hp => .tail _ (.tail _ (.tail _ (.tail _ (.tail _ (.tail _ (.tail _ (.tail _ hp)))))))
  refine so_spec (tv := tv.reverse) (ts := ts.reverse) B F4 X N4 (wantsIn_mono hWI1 up6) (.head _) (strsAre_rev hts) (by rw [List.length_reverse]; omega) ((List.reverse_perm ts).nodup_iff.mpr hnd) (fun t ht => lookW_some (hsub t (List.mem_reverse.mp ht))) (small_ok hfin.1) T rfl (by ktr_room) (fun l hl => S31 hfin.1 hfin.2.1 (hl.nodup_iff.mpr ((List.reverse_perm ts).nodup_iff.mpr hnd))) ?_
  intro h3 tk3 rt2 dm2 om2 kvs2 R3 ss2 tD2 hss2 hsort2 F5 N5 s1 s2 s3 s4 hdm2 hmd2 hms2
  obtain rfl : ss2 = ss := pair_uniq (sorted_pair hsort2) (sorted_pair hsort) ((hss2.trans (List.reverse_perm ts)).trans hss.symm)
  obtain ⟨N6, O6⟩ := renorm (X := [(rt2, { cls := .type "tuple", data := .seq (List.toArray [Value.ref dm2, Value.int (soRun ws ss2).D tD2]) 0 }), (dm2, om2)]) (by intro p hp; rcases List.mem_cons.mp hp with rfl | hp; rfl; rw [List.mem_singleton.mp hp]; exact nc_dict hmd2) N5 (fun p hp => s1 _ (.tail _ hp)) d1 d2 d3 d4' d5
  simp only [List.cons_append, List.nil_append] at N6 O6
  have htl3 := mem_ncs (s1 _ (up6 _ htl1)) rfl
  have hfl3 := mem_ncs (s1 _ (up6 _ hfl1)) rfl
  have hw3 : WishesAre w (ncs R3) wv wis := wishes_ncs (hw1.mono fun p hp => s1 _ (up6 _ hp))
  have hWI3 : WantsIn prog w (ncs R3) d ws := wantsIn_ncs (wantsIn_mono hWI1 fun p hp => s1 _ (up6 _ hp))
  have hms3 : MsAre (ncs R3) kvs (soRun ws ss2).ms := msAre_ncs (hms1.mono fun p hp => s1 _ (up6 _ hp))
  have hom3 : (dm, om) ∈ ncs R3 := mem_ncs (s1 _ (.tail _ (.tail _ (.tail _ (.tail _ (.tail _ (.tail _ (.tail _ (.head _))))))))) (nc_dict hmd)
  have hms2' := msAre_ncs hms2
  clear N4 N5 F4 hms2 hWI1 hw1 hfl1 htl1 hms1 O3 s1 s2 s3 s4
  generalize ncs R3 = R4 at *
  k_steps
  rename Fr _ _ _ _ => F7
  rename News _ _ _ _ => N7
  refine Stop.mk (id ?_)
  have N8 := news_sub N7 (b := R4) (fun p hp => .tail _ (.tail _ (.tail _ (.tail _ (.tail _ (.tail _ (.tail _ (.tail _ hp))))))))
  refine ne_tup2 (N7 _ (.tail _ (.tail _ (.tail _ (.tail _ (.tail _ (.tail _ (.head _)))))))).1 (N7 _ (.head _)).1 (by ke_room) ?_ ?_ ?_
  · intro E1 Q1 hq
    refine eqBool_dicts hdm2 hdm (Heap.dictOf_iff.mpr ⟨om2, (N7 _ (.tail _ (.tail _ (.tail _ (.tail _ (.tail _ (.tail _ (.tail _ (.head _))))))))).1, hmd2⟩) (Heap.dictOf_iff.mpr ⟨om, (N8 _ hom3).1, hmd⟩) (by ke_room) (ms_hits N8 (by ke_room) hms2' (hms3.look (dict_nodup hmd))) ?_ hq
    have e1 := congrArg List.length hms2'.keys
    have e2 := congrArg List.length hms3.keys
    simp only [List.length_map] at e1 e2
    omega
  · intro E1 Q1 hq
    refine SeqAt.EqAt.int_int _ _ _ _ _ _ _ _ ?_
    simpa using hq
  clear N8
  k_steps
  rename Fr _ _ _ _ => F9
  rename News _ _ _ _ => N9
  refine Stop.mk (id ?_)
  show wpAny _ _ (eval (Expr.ListComp _ [⟨.Name _ _, _, [_], 0⟩] _ _) _) _ _ _
  refine' ListComp_DQ (F₀ := F9) ?h1 ?h2 ?h3 ?h4 ?h5 ?h6 ?h7
  case h1 => with_unfolding_all rfl
  case h2 => decide
  case h3 => rfl
  case h4 => decide
  case h5 => rfl
  case h7 => intro _; rfl
  intro QQ hQQ
  k_steps
  refine hQQ _ _ ?_
  refine SrcD.mk (by rfl) F9 N9 (.tail _ (.tail _ (.tail _ (.tail _ (.tail _ (.tail _ (.tail _ (.tail _ hom3)))))))) hmd hdm ?_ (fun g => rest_T (fun i ys nx => ys = [] ∧ nx = _) ?_ ?_ _ 0 [] _ (Nat.zero_add _) ⟨rfl, rfl⟩)
  · have e2 := congrArg List.length hms3.keys
    have e3 := hss.length_eq
    simp only [List.length_map] at e2
    have e4 := sublist_map_le (f := id) (l := ss2) (r := (soRun ws ss2).ms.map (·.1)) (by rw [List.map_id]; exact soRun_sub ws ss2)
    simp only [List.length_map] at e4
    omega
  · rintro ys nx ⟨rfl, rfl⟩
    intro D h5 tk5 F5 N5 off5
    simp only [LCg.Off1] at off5
    clear hQQ N9
    k_steps
    rename Fr _ _ _ _ => F10
    rename News _ _ _ _ => N10
    refine Stop.mk (id ?_)
    refine ne_nil N10 (.tail _ (.head _)) (.head _) (by ke_room) ?_
    k_steps
    rename Fr _ _ _ _ => F11
    rename News _ _ _ _ => N11
    obtain ⟨N12, O12⟩ := renorm (X := []) (by intro p hp; cases hp) N11 (fun p hp => .tail _ (.tail _ (.tail _ hp))) d1 d2 d3 d4' d5
    have up9 : ∀ {a b c b1 b2 : Addr × Obj} {o1 o2 o3 o4 o5 : Obj} {R : List (Addr × Obj)}, ∀ p ∈ R, p ∈ a :: b :: c :: cells5 L o1 o2 o3 o4 o5 (b1 :: b2 :: R) := fun p hp => .tail _ (.tail _ (.tail _ (up5 _ (.tail _ (.tail _ hp)))))
    exact next _ _ _ (.mk (R := ncs _) O12 d1 d2 d3 d4' (mem_ncs (up9 _ hfl3) rfl) (wishes_ncs (hw3.mono up9)) hwl hwi (wantsIn_ncs (wantsIn_mono hWI3 up9)) hk (mem_ncs (up9 _ htl3) rfl) hts hnd hsub hlen hwsl hss hsort hdm (mem_ncs (up9 _ hom3) (nc_dict hmd)) hmd (msAre_ncs (hms3.mono up9)) F11 (by with_unfolding_all rfl) (by with_unfolding_all rfl) N12)
  · rintro i ys nx v I oI C oC D m₂ h2 tk2 E' hin ⟨rfl, rfl⟩ hv hoC hmx F3 N3 off3 ne3
    simp only [LCg.Off3] at off3
    obtain ⟨k, x, hx, hk2⟩ := hv
    obtain ⟨t, rfl⟩ := Value.isStrOf_shape hk2
    have hkt : k ∈ ts := by
      refine hss.mem_iff.mp ((soRun_sub ws ss2).subset ?_)
      rw [← hms3.keys]
      exact List.mem_map.mpr ⟨_, List.mem_of_getElem? hx, rfl⟩
    clear hQQ N9
    k_steps
    rename Fr _ _ _ _ => F6
    rename News _ _ _ _ => N6
    refine Stop.mk (id ?_)
    exact ⟨_, _, _, rfl, F6, N6, off3, up6 _ hom3, rfl, rfl⟩
end
/-! bits of naturals -/
theorem bitAnd_nat (a b : Nat) : Builtin.bitAnd (a : Int) (b : Int) = ((a &&& b : Nat) : Int) := by
  unfold Builtin.bitAnd
  rw [show decide (0 ≤ (a : Int)) = true from decide_eq_true (Int.natCast_nonneg a), show decide (0 ≤ (b : Int)) = true from decide_eq_true (Int.natCast_nonneg b)]
  rfl
theorem bitNot_neg (a : Nat) : decide (0 ≤ Builtin.bitNot (a : Int)) = false := by
  unfold Builtin.bitNot
  exact decide_eq_false (by omega)
theorem bitNot_not (x : Int) : Builtin.bitNot (Builtin.bitNot x) = x := by
  unfold Builtin.bitNot; omega
theorem bitOr_nat (a b : Nat) : Builtin.bitOr (a : Int) (b : Int) = ((a ||| b : Nat) : Int) := by
  unfold Builtin.bitOr Builtin.bitAnd
  rw [bitNot_neg, bitNot_neg]
  simp only [bitNot_not]
  rfl
theorem bitAnd_not_nat (a b : Nat) : Builtin.bitAnd (a : Int) (Builtin.bitNot (b : Int)) = (a : Int) - ((a &&& b : Nat) : Int) := by
  unfold Builtin.bitAnd
  rw [show decide (0 ≤ (a : Int)) = true from decide_eq_true (Int.natCast_nonneg a), bitNot_neg]
  simp only [bitNot_not]
  rfl
theorem or_add {D v S : Nat} (h : D < 2 ^ S) : D ||| v * 2 ^ S = D + v * 2 ^ S := by
  have := Nat.two_pow_add_eq_or_of_lt h v
  rw [Nat.or_comm, Nat.mul_comm v, ← this, Nat.add_comm]
theorem low_bits {D v S x y : Nat} (h : x + y ≤ S) : ((D + v * 2 ^ S) / 2 ^ x) % 2 ^ y = (D / 2 ^ x) % 2 ^ y := by
  obtain ⟨z, rfl⟩ : ∃ z, S = x + y + z := ⟨S - (x + y), by omega⟩
  have e : v * 2 ^ (x + y + z) = 2 ^ x * (2 ^ y * (v * 2 ^ z)) := by
    rw [Nat.pow_add, Nat.pow_add]
    simp only [Nat.mul_comm, Nat.mul_left_comm, Nat.mul_assoc]
  rw [e, Nat.add_mul_div_left _ _ (Nat.two_pow_pos x), Nat.add_mul_mod_self_left]
theorem top_bits {D v S : Nat} (h : D < 2 ^ S) : (D + v * 2 ^ S) / 2 ^ S = v := by
  rw [Nat.add_mul_div_right _ _ (Nat.two_pow_pos S), Nat.div_eq_of_lt h, Nat.zero_add]
theorem top_lt {D v S b : Nat} (h : D < 2 ^ S) (hv : v < 2 ^ b) : D + v * 2 ^ S < 2 ^ (S + b) := by
  rw [Nat.pow_add]
  have : (v + 1) * 2 ^ S ≤ 2 ^ b * 2 ^ S := Nat.mul_le_mul_right _ hv
  rw [Nat.add_mul, Nat.one_mul] at this
  rw [Nat.mul_comm (2 ^ S)]
  omega
theorem odd_keep {D v S : Nat} (h : D % 2 = 1) (hS : 1 ≤ S) : (D + v * 2 ^ S) % 2 = 1 := by
  obtain ⟨z, rfl⟩ : ∃ z, S = 1 + z := ⟨S - 1, by omega⟩
  have e : v * 2 ^ (1 + z) = 2 * (v * 2 ^ z) := by
    rw [Nat.pow_add]
    simp only [Nat.pow_one, Nat.mul_left_comm]
  rw [e, Nat.add_mul_mod_self_left]
  exact h
/-- the mask of y bits from x -/
def msk (x y : Nat) : Nat := (2 ^ y - 1) * 2 ^ x
theorem msk_taken (x y : Nat) : msk x y &&& (2 ^ x - 1) = 0 := by
  unfold msk
  rw [Nat.and_two_pow_sub_one_eq_mod, Nat.mul_mod_left]
theorem msk_or (x y : Nat) : (2 ^ x - 1) ||| msk x y = 2 ^ (x + y) - 1 := by
  unfold msk
  have hx := Nat.two_pow_pos x
  rw [or_add (by omega), Nat.pow_add, Nat.sub_mul, Nat.one_mul, Nat.mul_comm (2 ^ x)]
  have : 2 ^ x ≤ 2 ^ y * 2 ^ x := Nat.le_mul_of_pos_left _ (Nat.two_pow_pos y)
  rw [← Nat.sub_add_comm hx, Nat.add_sub_of_le this]
theorem msk_pos {x y : Nat} (h : 1 ≤ y) : 0 < msk x y := by
  unfold msk
  refine Nat.mul_pos ?_ (Nat.two_pow_pos x)
  have : 2 ^ 1 ≤ 2 ^ y := Nat.pow_le_pow_right (by decide) h
  omega
theorem msk_lt {x y : Nat} (h : x + y ≤ 31) : msk x y < 2 ^ 31 := by
  unfold msk
  have h1 : 2 ^ (x + y) ≤ 2 ^ 31 := Nat.pow_le_pow_right (by decide) h
  rw [Nat.pow_add] at h1
  rw [Nat.sub_mul, Nat.one_mul, Nat.mul_comm]
  have := Nat.two_pow_pos x
  omega
theorem msk_get (D x y : Nat) : (D &&& msk x y) / 2 ^ x = (D / 2 ^ x) % 2 ^ y := by
  rw [← Nat.shiftRight_eq_div_pow, Nat.shiftRight_and_distrib, Nat.shiftRight_eq_div_pow, Nat.shiftRight_eq_div_pow]
  unfold msk
  rw [Nat.mul_div_cancel _ (Nat.two_pow_pos x), Nat.and_two_pow_sub_one_eq_mod]
theorem and_all {D S : Nat} (h : D < 2 ^ S) : D &&& (2 ^ S - 1) = D := by
  rw [Nat.and_two_pow_sub_one_eq_mod, Nat.mod_eq_of_lt h]

theorem blen_lt {v : Int} (h0 : 0 ≤ v) (h : v ≤ 9) : v.toNat < 2 ^ (blen v).toNat := ten (P := fun v => v.toNat < 2 ^ (blen v).toNat) h0 h (by decide)
theorem blen_pos {v : Int} (h0 : 1 ≤ v) (h : v ≤ 9) : 1 ≤ blen v := ten (P := fun v => 1 ≤ v → 1 ≤ blen v) (Int.le_trans (by decide) h0) h (by decide) h0

/-! what shared_out lays -/
def shM (ms : List (Str × Int × Int)) : Int := 1 + (ms.map fun q => if q.2.1 = 0 then 0 else q.2.2).sum
theorem shM_snoc (ms : List (Str × Int × Int)) (q : Str × Int × Int) : shM (ms ++ [q]) = shM ms + if q.2.1 = 0 then 0 else q.2.2 := by
  unfold shM
  rw [List.map_append, List.sum_append]
  simp only [List.map_cons, List.map_nil, List.sum_cons, List.sum_nil]
  omega
def wideD (x : WD) : Int := if x.own = true then x.m else x.v
/-- what is said of entry i -/
inductive EntN (x y : Int) (e : WD) : Prop
  | mk : x = 0 → y = 1 → e.v = 1 → e.own = false → EntN x y e
inductive EntB (z : Int) (D : Nat) (S : Int) (x y : Int) (e : WD) : Prop
  | mk : x = z → 1 ≤ x → 1 ≤ y → x + y ≤ S → y = blen (wideD e) → (e.own = true ∨ 1 < e.v) → 0 ≤ e.v → (D / 2 ^ x.toNat) % 2 ^ y.toNat = e.v.toNat → EntB z D S x y e
def EntOk (ws : List WE) (ms : List (Str × Int × Int)) (D : Nat) (S : Int) (i : Nat) (k : Str) (x y : Int) : Prop :=
  ∃ e, lookW ws k = some e ∧ (EntN x y e.x ∨ EntB (shM (ms.take i)) D S x y e.x)
structure SoOk (ws : List WE) (st : SO) (D : Nat) : Prop where
  dn : st.D = (D : Int)
  s1 : 1 ≤ st.S
  lt : D < 2 ^ st.S.toNat
  odd : D % 2 = 1
  sh : st.S = shM st.ms
  ent : ∀ i k x y, st.ms[i]? = some (k, x, y) → EntOk ws st.ms D st.S i k x y

theorem wide_ok {x : WD} (h : okW x) (hb : x.own = true ∨ 1 < x.v) : 1 ≤ wideD x ∧ x.v ≤ wideD x ∧ wideD x ≤ 9 := by
  obtain ⟨h1, h2, h3, h4⟩ := h
  unfold wideD
  split
  · rename_i ho
    refine ⟨?_, h2, h3⟩
    unfold WD.own at ho
    rw [Bool.or_eq_true] at ho
    rcases ho with ho | ho
    · exact h4 ho
    · have := of_decide_eq_true (Bool.and_eq_true_iff.mp ho).2
      omega
  · rename_i ho
    rcases hb with hb | hb
    · exact absurd hb ho
    · exact ⟨by omega, Int.le_refl _, by omega⟩
theorem pow_lt_mono {v a b : Int} (h0 : 0 ≤ v) (hva : v ≤ a) (ha : a ≤ 9) : v.toNat < 2 ^ (blen a).toNat := by
  exact Nat.lt_of_le_of_lt (Int.toNat_le_toNat hva) (blen_lt (Int.le_trans h0 hva) ha)

theorem toNat_le2 {x y S : Int} (hx : 0 ≤ x) (hy : 0 ≤ y) (h : x + y ≤ S) : x.toNat + y.toNat ≤ S.toNat := by
  rw [← Int.toNat_add hx hy]
  exact Int.toNat_le_toNat h
theorem so_ok_step {ws : List WE} (hw : ∀ e ∈ ws, okW e.x) {st : SO} {D : Nat} (h : SoOk ws st D) (t : Str) : ∃ D', SoOk ws (soStep ws st t) D' := by
  unfold soStep
  cases hl : lookW ws t with
  | none => exact ⟨D, h⟩
  | some e =>
    have he := hw e (lookW_mem hl).1
    simp only
    split
    · rename_i hc
      refine ⟨D, ⟨h.dn, h.s1, h.lt, h.odd, ?_, ?_⟩⟩
      · rw [shM_snoc, ← h.sh]; simp
      · intro i k x y hi
        rcases Nat.lt_or_ge i st.ms.length with hlt | hge
        · rw [List.getElem?_append_left hlt] at hi
          obtain ⟨e', h1, h2⟩ := h.ent i k x y hi
          refine ⟨e', h1, ?_⟩
          rw [List.take_append_of_le_length (Nat.le_of_lt hlt)]
          exact h2
        · rw [List.getElem?_append_right hge] at hi
          obtain ⟨rfl, rfl, rfl⟩ : t = k ∧ 0 = x ∧ 1 = y := by
            cases hz : i - st.ms.length with
            | zero => rw [hz] at hi; simpa using hi
            | succ n => rw [hz] at hi; simp at hi
          exact ⟨e, hl, .inl ⟨rfl, rfl, hc.2, hc.1⟩⟩
    · rename_i hc
      split
      · rename_i hb
        obtain ⟨w1, w2, w3⟩ := wide_ok he hb
        have hb1 : 1 ≤ blen (wideD e.x) := blen_pos w1 w3
        have hv0 := he.1
        have hvlt : e.x.v.toNat < 2 ^ (blen (wideD e.x)).toNat := pow_lt_mono (b := 0) hv0 w2 w3
        have hs1 := h.s1
        show ∃ D', SoOk ws ⟨st.ms ++ [(t, st.S, blen (wideD e.x))], Builtin.bitOr st.D (e.x.v * 2 ^ st.S.toNat), st.S + blen (wideD e.x)⟩ D'
        have hsum : (st.S + blen (wideD e.x)).toNat = st.S.toNat + (blen (wideD e.x)).toNat := Int.toNat_add (Int.le_trans (by decide) hs1) (Int.le_trans (by decide) hb1)
        refine ⟨D + e.x.v.toNat * 2 ^ st.S.toNat, ⟨?_, ?_, ?_, ?_, ?_, ?_⟩⟩
        · show Builtin.bitOr st.D (e.x.v * 2 ^ st.S.toNat) = _
          have ev : e.x.v = ((e.x.v.toNat : Nat) : Int) := (Int.toNat_of_nonneg hv0).symm
          rw [h.dn, ev, show ((e.x.v.toNat : Nat) : Int) * 2 ^ st.S.toNat = ((e.x.v.toNat * 2 ^ st.S.toNat : Nat) : Int) by simp, bitOr_nat, or_add h.lt]
          simp
        · exact Int.le_trans hs1 (Int.le_add_of_nonneg_right (Int.le_trans (by decide) hb1))
        · show _ < 2 ^ (st.S + blen (wideD e.x)).toNat
          rw [hsum]
          exact top_lt h.lt hvlt
        · exact odd_keep h.odd (Int.toNat_le_toNat hs1)
        · show st.S + blen (wideD e.x) = shM (st.ms ++ [(t, st.S, blen (wideD e.x))])
          rw [shM_snoc, ← h.sh, if_neg (by show ¬ st.S = 0; omega)]
        · intro i k x y hi
          replace hi : (st.ms ++ [(t, st.S, blen (wideD e.x))])[i]? = some (k, x, y) := hi
          show EntOk ws (st.ms ++ [(t, st.S, blen (wideD e.x))]) _ (st.S + blen (wideD e.x)) i k x y
          rcases Nat.lt_or_ge i st.ms.length with hlt | hge
          · rw [List.getElem?_append_left hlt] at hi
            obtain ⟨e', h1, h2⟩ := h.ent i k x y hi
            refine ⟨e', h1, ?_⟩
            rw [List.take_append_of_le_length (Nat.le_of_lt hlt)]
            rcases h2 with h2 | ⟨a1, a2, a3, a4, a5, a6, a7, a8⟩
            · exact .inl h2
            · exact .inr ⟨a1, a2, a3, Int.le_trans a4 (Int.le_add_of_nonneg_right (Int.le_trans (by decide) hb1)), a5, a6, a7, by rw [low_bits (toNat_le2 (Int.le_trans (by decide) a2) (Int.le_trans (by decide) a3) a4)]; exact a8⟩
          · rw [List.getElem?_append_right hge] at hi
            obtain ⟨hz, rfl, rfl, rfl⟩ : i - st.ms.length = 0 ∧ t = k ∧ st.S = x ∧ blen (wideD e.x) = y := by
              cases hz : i - st.ms.length with
              | zero => rw [hz] at hi; simpa using hi
              | succ n => rw [hz] at hi; simp at hi
            have hi2 : i = st.ms.length := Nat.le_antisymm (Nat.le_of_sub_eq_zero hz) hge
            refine ⟨e, hl, .inr ⟨?_, hs1, hb1, Int.le_refl _, rfl, hb, hv0, ?_⟩⟩
            · rw [hi2, List.take_left, ← h.sh]
            · rw [top_bits h.lt, Nat.mod_eq_of_lt hvlt]
      · exact ⟨D, h⟩
theorem so_ok_fold {ws : List WE} (hw : ∀ e ∈ ws, okW e.x) : ∀ (l : List Str) {st : SO} {D : Nat}, SoOk ws st D → ∃ D', SoOk ws (l.foldl (soStep ws) st) D'
  | [], _, D, h => ⟨D, h⟩
  | t :: l, _, _, h => by
    obtain ⟨D', h'⟩ := so_ok_step hw h t
    exact so_ok_fold hw l h'
theorem so_ok {ws : List WE} (h : okT (kx ws)) (l : List Str) : ∃ D, SoOk ws (soRun ws l) D :=
  so_ok_fold (okE h) l (D := 1) ⟨rfl, Int.le_refl _, by decide, rfl, rfl, fun i k x y hi => by simp at hi⟩
/-! the wishes -/
theorem lookT_cons (p : Str × WD) (T : List (Str × WD)) (k : Str) : lookT (p :: T) k = if p.1 = k then some p.2 else lookT T k := by
  unfold lookT
  by_cases h : p.1 = k
  · rw [List.find?_cons_of_pos (by simp [h]), if_pos h]; rfl
  · rw [List.find?_cons_of_neg (by simp [h]), if_neg h]
theorem lookT_none {T : List (Str × WD)} {k : Str} (h : k ∉ T.map (·.1)) : lookT T k = none := by
  induction T with
  | nil => rfl
  | cons p T ih =>
    rw [List.map_cons, List.mem_cons, not_or] at h
    rw [lookT_cons, if_neg (fun e => h.1 e.symm), ih h.2]
theorem lookT_append (T U : List (Str × WD)) (k : Str) : lookT (T ++ U) k = (lookT T k).or (lookT U k) := by
  induction T with
  | nil => rfl
  | cons p T ih =>
    rw [List.cons_append, lookT_cons, lookT_cons, ih]
    split <;> rfl
theorem lookT_put_same {T : List (Str × WD)} {k : Str} {x : WD} : lookT (putT T k x) k = some x := by
  unfold putT
  split
  · rename_i h
    induction T with
    | nil => cases h
    | cons p T ih =>
      rw [List.map_cons, lookT_cons]
      by_cases e : p.1 = k
      · rw [if_pos e, if_pos rfl]
      · rw [if_neg e, if_neg e]
        refine ih ?_
        rw [List.map_cons, List.mem_cons] at h
        exact h.resolve_left fun h => e h.symm
  · rename_i h
    rw [lookT_append, lookT_none h, lookT_cons, if_pos rfl]; rfl
theorem lookT_put_ne {T : List (Str × WD)} {k k' : Str} {x : WD} (hne : k' ≠ k) : lookT (putT T k x) k' = lookT T k' := by
  unfold putT
  split
  · rename_i h
    clear h
    induction T with
    | nil => rfl
    | cons p T ih =>
      rw [List.map_cons, lookT_cons, lookT_cons]
      by_cases e : p.1 = k
      · rw [if_pos e, if_neg (fun h => hne h.symm), if_neg (fun h => hne (h.symm.trans e)), ih]
      · rw [if_neg e, ih]
  · rw [lookT_append, lookT_cons, if_neg (fun h => hne h.symm)]
    show (lookT T k').or none = _
    cases lookT T k' <;> rfl
def HasW (T : List (Str × WD)) (k : Str) (v : Int) (pt : Bool) : Prop := ∃ x, lookT T k = some x ∧ v ≤ x.m ∧ (pt = true → x.p = true)
theorem wish_m (x : WD) (i : WI) : (x.wish i).m = if i.v > x.m then i.v else x.m := by
  unfold WD.wish
  split <;> rfl
theorem wish_p (x : WD) (i : WI) : x.p = true → (x.wish i).p = true := by
  unfold WD.wish
  intro h
  split
  · exact h
  · rfl
theorem wish_part (x : WD) (i : WI) (h : i.whole = false) : (x.wish i).p = true := by
  unfold WD.wish
  rw [h]
  rfl
theorem hasW_apply (T : List (Str × WD)) (i : WI) : HasW (applyW T i) i.tag i.v (!i.whole) := by
  refine ⟨_, lookT_put_same, ?_, ?_⟩
  · rw [wish_m]; split <;> omega
  · intro h
    exact wish_part _ _ (by simpa using h)
theorem hasW_keep {T : List (Str × WD)} {k : Str} {v : Int} {pt : Bool} (h : HasW T k v pt) (j : WI) : HasW (applyW T j) k v pt := by
  obtain ⟨x, h1, h2, h3⟩ := h
  by_cases e : k = j.tag
  · subst e
    refine ⟨_, lookT_put_same, ?_, ?_⟩
    · rw [h1, wish_m]
      show v ≤ if j.v > x.m then j.v else x.m
      split <;> omega
    · intro hp
      rw [h1]
      exact wish_p x j (h3 hp)
  · exact ⟨x, by unfold applyW; rw [lookT_put_ne e]; exact h1, h2, h3⟩
theorem hasW_fold {k : Str} {v : Int} {pt : Bool} : ∀ (wis : List WI) {T : List (Str × WD)}, HasW T k v pt → HasW (wis.foldl applyW T) k v pt
  | [], _, h => h
  | j :: r, _, h => hasW_fold r (hasW_keep h j)
theorem hasW_mem : ∀ (wis : List WI) (T : List (Str × WD)), ∀ i ∈ wis, HasW (wis.foldl applyW T) i.tag i.v (!i.whole)
  | [], _, i, h => by cases h
  | j :: r, T, i, h => by
    rcases List.mem_cons.mp h with rfl | h
    · exact hasW_fold r (hasW_apply T i)
    · exact hasW_mem r _ i h

/-! more tags -/
theorem grown_fold {ws : List WE} (P : Str → Bool) : ∀ (gg : List Str) {a b : SO}, a.D = b.D → a.S = b.S → (∀ q ∈ b.ms, q ∈ a.ms) →
    (∀ t ∈ gg, P t = false → ∃ e, lookW ws t = some e ∧ e.x.own = false ∧ e.x.v = 1) →
    (gg.foldl (soStep ws) a).D = ((gg.filter P).foldl (soStep ws) b).D ∧ (gg.foldl (soStep ws) a).S = ((gg.filter P).foldl (soStep ws) b).S ∧ ∀ q ∈ ((gg.filter P).foldl (soStep ws) b).ms, q ∈ (gg.foldl (soStep ws) a).ms
  | [], a, b, hD, hS, hm, _ => ⟨hD, hS, hm⟩
  | t :: gg, a, b, hD, hS, hm, hx => by
    have hx' := fun u hu => hx u (List.mem_cons_of_mem t hu)
    cases hP : P t with
    | true =>
      rw [List.filter_cons_of_pos hP, List.foldl_cons, List.foldl_cons]
      have key : (soStep ws a t).D = (soStep ws b t).D ∧ (soStep ws a t).S = (soStep ws b t).S ∧ ∀ q ∈ (soStep ws b t).ms, q ∈ (soStep ws a t).ms := by
        unfold soStep
        cases lookW ws t with
        | none => exact ⟨hD, hS, hm⟩
        | some e =>
          simp only
          split
          · refine ⟨hD, hS, ?_⟩
            intro q hq
            rcases List.mem_append.mp hq with hq | hq
            · exact List.mem_append_left _ (hm q hq)
            · exact List.mem_append_right _ hq
          · split
            · simp only [hD, hS]
              refine ⟨trivial, trivial, ?_⟩
              intro q hq
              rcases List.mem_append.mp hq with hq | hq
              · exact List.mem_append_left _ (hm q hq)
              · exact List.mem_append_right _ hq
            · exact ⟨hD, hS, hm⟩
      exact grown_fold P gg key.1 key.2.1 key.2.2 hx'
    | false =>
      rw [List.filter_cons_of_neg (by rw [hP]; decide), List.foldl_cons]
      obtain ⟨e, h1, h2, h3⟩ := hx t (.head _) hP
      have es : soStep ws a t = ⟨a.ms ++ [(t, 0, 1)], a.D, a.S⟩ := by
        unfold soStep
        rw [h1]
        simp only
        rw [if_pos ⟨h2, h3⟩]
      rw [es]
      exact grown_fold P gg (a := ⟨a.ms ++ [(t, 0, 1)], a.D, a.S⟩) hD hS (fun q hq => List.mem_append_left _ (hm q hq)) hx'
theorem grown_run {ws : List WE} {gg ss : List Str} (hg : gg.Pairwise sle) (hs : ss.Pairwise sle) (hgn : gg.Nodup) (hsn : ss.Nodup) (hsub : ∀ t ∈ ss, t ∈ gg)
    (hx : ∀ t ∈ gg, t ∉ ss → ∃ e, lookW ws t = some e ∧ e.x.own = false ∧ e.x.v = 1) :
    (soRun ws gg).D = (soRun ws ss).D ∧ ∀ q ∈ (soRun ws ss).ms, q ∈ (soRun ws gg).ms := by
  have e : gg.filter (fun t => decide (t ∈ ss)) = ss := by
    refine pair_uniq (hg.sublist List.filter_sublist) hs ?_
    refine (List.perm_ext_iff_of_nodup (hgn.sublist List.filter_sublist) hsn).mpr fun t => ?_
    rw [List.mem_filter]
    exact ⟨fun h => of_decide_eq_true h.2, fun h => ⟨hsub t h, decide_eq_true h⟩⟩
  have h := grown_fold (ws := ws) (fun t => decide (t ∈ ss)) gg (a := ⟨[], 1, 1⟩) (b := ⟨[], 1, 1⟩) rfl rfl (fun q hq => hq) (fun t ht hP => hx t ht (of_decide_eq_false hP))
  rw [e] at h
  exact ⟨h.1, h.2.2⟩
/-- the value of taken after i entries -/
def takenN (ms : List (Str × Int × Int)) (i : Nat) : Nat := 2 ^ (shM (ms.take i)).toNat - 1

theorem pow_sub_cast (y : Nat) : ((2 ^ y - 1 : Nat) : Int) = 2 ^ y - 1 := by
  have := Nat.two_pow_pos y
  rw [Int.natCast_sub this]
  simp
theorem bv_eq (x y : Int) : ((1 * 2 ^ y.toNat - 1) * 2 ^ x.toNat : Int) = ((msk x.toNat y.toNat : Nat) : Int) := by
  unfold msk
  rw [Int.natCast_mul, pow_sub_cast, Int.one_mul]
  simp
theorem take_succ_ms {ms : List (Str × Int × Int)} {i : Nat} {q : Str × Int × Int} (h : ms[i]? = some q) : shM (ms.take (i + 1)) = shM (ms.take i) + if q.2.1 = 0 then 0 else q.2.2 := by
  rw [List.take_add_one, h]
  exact shM_snoc _ _
theorem taken_skip {ms : List (Str × Int × Int)} {i : Nat} {k : Str} {y : Int} (h : ms[i]? = some (k, 0, y)) : takenN ms (i + 1) = takenN ms i := by
  unfold takenN
  rw [take_succ_ms h]
  simp
theorem ent_bits {ws : List WE} {st : SO} {Dn i : Nat} {k : Str} {x y v bv : Int} (hso : SoOk ws st Dn) (hq : st.ms[i]? = some (k, x, y)) (a1 : x = shM (st.ms.take i)) (a2 : 1 ≤ x) (a3 : 1 ≤ y) (a4 : x + y ≤ st.S) (h31 : st.S ≤ 31)
    (a7 : 0 ≤ v) (a8 : Dn / 2 ^ x.toNat % 2 ^ y.toNat = v.toNat) (hbv : bv = (1 * 2 ^ y.toNat - 1) * 2 ^ x.toNat) :
    Builtin.bitAnd bv (takenN st.ms i : Nat) = 0 ∧ bv ≠ 0 ∧ ¬ 2 ^ Int.toNat 31 ≤ bv ∧ Builtin.bitOr (takenN st.ms i : Nat) bv = (takenN st.ms (i + 1) : Nat) ∧ (Builtin.bitAnd st.D bv).fdiv (2 ^ x.toNat) = v := by
  have hx : takenN st.ms i = 2 ^ x.toNat - 1 := by unfold takenN; rw [← a1]
  have hy : takenN st.ms (i + 1) = 2 ^ (x.toNat + y.toNat) - 1 := by
    unfold takenN
    rw [take_succ_ms hq, ← a1, if_neg (by show ¬ x = 0; omega)]
    show 2 ^ (x + y).toNat - 1 = _
    rw [Int.toNat_add (Int.le_trans (by decide) a2) (Int.le_trans (by decide) a3)]
  rw [bv_eq] at hbv
  subst hbv
  refine ⟨?_, ?_, ?_, ?_, ?_⟩
  · rw [bitAnd_nat, hx, msk_taken]; rfl
  · have := msk_pos (x := x.toNat) (y := y.toNat) (Int.toNat_le_toNat a3)
    omega
  · have := msk_lt (x := x.toNat) (y := y.toNat) (toNat_le2 (Int.le_trans (by decide) a2) (Int.le_trans (by decide) a3) (Int.le_trans a4 h31))
    intro h
    have h2 : ((2 ^ 31 : Nat) : Int) ≤ ((msk x.toNat y.toNat : Nat) : Int) := h
    omega
  · rw [bitOr_nat, hx, msk_or, hy]
  · rw [hso.dn, bitAnd_nat]
    have e : ((2 : Int) ^ x.toNat) = ((2 ^ x.toNat : Nat) : Int) := by simp
    rw [e, Int.fdiv_eq_ediv_of_nonneg _ (Int.natCast_nonneg _), ← Int.natCast_ediv, msk_get, a8]
    exact Int.toNat_of_nonneg a7
theorem fin_bits {ws : List WE} {st : SO} {Dn : Nat} (hso : SoOk ws st Dn) : Builtin.bitAnd st.D 1 = 1 ∧ Builtin.bitAnd st.D (Builtin.bitNot (takenN st.ms st.ms.length : Nat)) = 0 := by
  refine ⟨?_, ?_⟩
  · rw [bitAnd_m1, hso.dn]
    have := hso.odd
    omega
  · have hx : takenN st.ms st.ms.length = 2 ^ st.S.toNat - 1 := by
      unfold takenN
      rw [List.take_length, ← hso.sh]
    rw [hso.dn, bitAnd_not_nat, hx, and_all hso.lt]
    omega
section
variable {prog : Program} {w : World} {A : Around} {E : Value → Shared → Prop} {s : Shared} {h₀ : Heap} {L : Addr} {news : List (Addr × Obj)}
theorem eq_tupI {a b : Addr} {x y x' y' : Int} {tx ty tx' ty' : Tok} {n n' : Nat} {c : Bool} {Q : Value → Shared → Prop} (N : News h₀ L s.heap news) (hm : (a, ({ cls := .type "tuple", data := .seq #[.int x tx, .int y ty] n } : Obj)) ∈ news) (hm' : (b, ({ cls := .type "tuple", data := .seq #[.int x' tx', .int y' ty'] n' } : Obj)) ∈ news) (hu : A.units + 64 < cLine)
    (e : (x == x' && (y == y' && true)) = c) (h : Q (.bool c) s) : wpAny (model prog w) A (compareOp .Eq (.ref a) (.ref b)) Q E s := by
  subst e
  exact eq_dataH (reads_tup N hm) (reads_tup N hm') rfl rfl hu h
theorem ne_tupI {a b : Addr} {x y x' y' : Int} {tx ty tx' ty' : Tok} {n n' : Nat} {c : Bool} {Q : Value → Shared → Prop} (N : News h₀ L s.heap news) (hm : (a, ({ cls := .type "tuple", data := .seq #[.int x tx, .int y ty] n } : Obj)) ∈ news) (hm' : (b, ({ cls := .type "tuple", data := .seq #[.int x' tx', .int y' ty'] n' } : Obj)) ∈ news) (hu : A.units + 64 < cLine)
    (e : (!(x == x' && (y == y' && true))) = c) (h : Q (.bool c) s) : wpAny (model prog w) A (compareOp .NotEq (.ref a) (.ref b)) Q E s := by
  subst e
  exact ne_dataH (reads_tup N hm) (reads_tup N hm') rfl rfl hu h
end
inductive StD (prog : Program) (w : World) (base : Heap) (L : Addr) (o5 : Obj) (h : Heap) (m : Str → Option Value) : Prop
  | mk {o1 o2 o3 o4 om : Obj} {v1 : Option Value} {fl d tl dm : Addr} {nf nt : Nat} {wv : List Value} {wis : List WI} {ws : List WE} {tv : List Value} {ts ss : List Str} {kvs : List (Str × Value)} {R : List (Addr × Obj)} {ar b : Bool} {tD tT : Tok}
    (hO : OffCs L R) (d1 : o1.data = .cell v1) (d2 : o2.data = .cell (some (.ref d))) (d3 : o3.data = .cell (some (.ref tl))) (d4 : o4.data = .cell (some (.ref dm)))
    (hfl : (fl, PySem.W.listOf wv.toArray nf) ∈ R) (hw : WishesAre w R wv wis) (hwl : wis.length ≤ 5) (hwi : ∀ x ∈ wis, x.tag ∈ lawTags ∧ 0 ≤ x.v ∧ x.v ≤ 9)
    (hWI : WantsIn prog w R d ws) (hk : kx ws = wis.foldl applyW (firstT ar b)) (htl : (tl, PySem.W.listOf tv.toArray nt) ∈ R) (hts : StrsAre tv ts) (hnd : ts.Nodup) (hsub : ∀ t ∈ ts, t ∈ ws.map (·.k)) (hlen : ts.length < 64) (hwsl : ws.length < 64)
    (hss : ss.Perm ts) (hsort : sortedS ss = true) (hdm : (dm == sysModules) = false) (hom : (dm, om) ∈ R) (hmd : om.IsDictOf (PySem.strKind prog w) kvs) (hms : MsAre R kvs (soRun ws ss).ms)
    (F : Fr base L h m) (hm : m (Str.ofString "wishes") = some (.ref fl)) (hm2 : m (Str.ofString "defaults") = some (.int (soRun ws ss).D tD)) (hm3 : m (Str.ofString "taken") = some (.int (takenN (soRun ws ss).ms (soRun ws ss).ms.length : Nat) tT))
    (N : News base L h (cells5 L o1 o2 o3 o4 o5 R)) : StD prog w base L o5 h m

set_option hygiene false in
local macro_rules | `(tactic| walk_at "compareOp Eq ref ref") => `(tactic| (k_here; refine Stop.mk ?_))

/-- what the turn of segD knows -/
inductive DF (prog : Program) (w : World) (R : List (Addr × Obj)) (ws : List WE) (st : SO) (Dn : Nat) (kvs : List (Str × Value)) (d : Addr) (i : Nat) (v : Value) : Prop
  | mk (k : Str) (tt : Tok) (x y : Int) (ta : Addr) (tx ty : Tok) (n : Nat) (e : WE) (od : Obj) (tw : Nat → Tok) : v = .str k tt → st.ms[i]? = some (k, x, y) → valueAt kvs k = some (.ref ta) → (ta, ({ cls := .type "tuple", data := .seq #[.int x tx, .int y ty] n } : Obj)) ∈ R →
      (EntN x y e.x ∨ EntB (shM (st.ms.take i)) Dn st.S x y e.x) → (d == sysModules) = false → (d, od) ∈ R → od.IsDictOf (PySem.strKind prog w) (ws.map fun e => (e.k, Value.ref e.a)) → (e.a, instObj 136 e.ad) ∈ R → (e.ad, wantO w e.x tw 4) ∈ R →
      valueAt (ws.map fun e => (e.k, Value.ref e.a)) k = some (.ref e.a) → 0 ≤ x → x ≤ 31 → 0 ≤ y → y ≤ 8 → DF prog w R ws st Dn kvs d i v
theorem d_facts {prog : Program} {w : World} {R : List (Addr × Obj)} {ws : List WE} {st : SO} {Dn : Nat} {kvs : List (Str × Value)} {d : Addr} {i : Nat} {v : Value} {sv : List Value} (hsv : StrsAre sv (st.ms.map (·.1))) (hv : sv[i]? = some v) (hms : MsAre R kvs st.ms) (hn : (kvs.map (·.1)).Nodup)
    (hso : SoOk ws st Dn) (hWI : WantsIn prog w R d ws) (hok : okT (kx ws)) (hS31 : st.S ≤ 31) : DF prog w R ws st Dn kvs d i v := by
  obtain ⟨k, tt, rfl, hst⟩ := strsAre_get hsv hv
  rw [List.getElem?_map] at hst
  cases hq : st.ms[i]? with
  | none => rw [hq] at hst; cases hst
  | some q =>
    rw [hq] at hst
    obtain ⟨k', x, y⟩ := q
    obtain rfl : k' = k := Option.some.inj hst
    obtain ⟨ta, tx, ty, n, hva, hta⟩ := hms.look hn _ (List.mem_of_getElem? hq)
    obtain ⟨e, hle, hor⟩ := hso.ent i _ _ _ hq
    obtain ⟨hds, ⟨od, hod, hdd⟩, hWE⟩ := id hWI
    obtain ⟨hwa, tw, hwd⟩ := hWE e (lookW_mem hle).1
    have hval : valueAt (ws.map fun e => (e.k, Value.ref e.a)) k' = some (.ref e.a) := by rw [lookW_at, hle]; rfl
    have hxy : 0 ≤ x ∧ x ≤ 31 ∧ 0 ≤ y ∧ y ≤ 8 := by
      rcases hor with ⟨rfl, rfl, -⟩ | ⟨-, a2, a3, a4, a5, a6, -⟩
      · decide
      · have hw1 := wide_ok (okE hok e (lookW_mem hle).1) a6
        have hbs := bits_small (x := wideD e.x) (Int.le_trans (by decide) hw1.1) hw1.2.2
        have hy0 : 0 ≤ y := Int.le_trans (by decide) a3
        exact ⟨Int.le_trans (by decide) a2, Int.le_trans (Int.le_trans (Int.le_add_of_nonneg_right hy0) a4) hS31, hy0, by rw [a5]; exact Int.le_trans hbs.2 (by decide)⟩
    exact ⟨k', tt, x, y, ta, tx, ty, n, e, od, tw, rfl, hq, hva, hta, hor, hds, hod, hdd, hwa, hwd, hval, hxy.1, hxy.2.1, hxy.2.2.1, hxy.2.2.2⟩

set_option maxHeartbeats 2000000 in
theorem segD {prog : Program} {w : World} {p : Program} {loose : List Str} {mean : ExcName → Option Value} {mg mb : Str → Option Value} {base : Heap} {L la : Addr} {cd : Value} {m : Str → Option Value} {s : Shared} {Q : Flow → Shared → Prop} {E : Value → Shared → Prop}
    {o5 : Obj}
    (B : Below callerA base [] base) (X : (hd.heap_39 w.params).In base) (T : Top p loose mean mg mb base)
    (hA : StC prog w base L o5 s.heap m) (hE : PassesOwn (model prog w) (callerA.deeper (lawEnv L la cd)) (lawEnv L la cd) E)
    (next : ∀ h tk m', StD prog w base L o5 h m' → wpAny (model prog w) (callerA.deeper (lawEnv L la cd)) (execs (lawBody.drop 9) (lawEnv L la cd)) Q E { s with heap := h, toks := tk }) :
    wpAny (model prog w) (callerA.deeper (lawEnv L la cd)) (execs (lawBody.drop 7) (lawEnv L la cd)) Q E s := by
  with_unfolding_all change wpAny _ _ (execs (_ :: _ :: lawBody.drop 9) _) _ _ _
  generalize lawBody.drop 9 = rest at next ⊢
  simp only [lawEnv] at *
  rw [show lawScope = { kind := _, names := _, isGenerator := _, isCoroutine := _, more := _ } from by with_unfolding_all rfl] at next hE ⊢
  obtain @⟨o1, o2, o3, o4, om, v1, fl, d, tl, dm, nf, nt, wv, wis, ws, tv, ts, ss, kvs, R, ar, b, tD, hO, d1, d2, d3, d4, hfl, hw, hwl, hwi, hWI, hk, htl, hts, hnd, hsub, hlen, hwsl, hss, hsort, hdm, hom, hmd, hms, F, hm, hm2, N⟩ := hA
  have hfin := final_ok ar b hwl fun x hx => (hwi x hx).2
  rw [← hk] at hfin
  have hS31 := S31 hfin.1 hfin.2.1 (hss.nodup_iff.mpr hnd)
  obtain ⟨Dn, hso⟩ := so_ok hfin.1 ss
  have hkeys : ((soRun ws ss).ms.map (·.1)).Pairwise sle := (sorted_pair hsort).sublist (soRun_sub ws ss)
  have hml : (soRun ws ss).ms.length < 64 := by
    have h1 := (soRun_sub ws ss).length_le
    have h2 := hss.length_eq
    simp only [List.length_map] at h1
    omega
  generalize hst0 : soRun ws ss = st at *
  have F0 := fr_known F [(_, _), (_, _)] ⟨hm, hm2, trivial⟩
  simp only [known] at F0
  clear F
  k_steps
  rename Fr _ _ _ _ => F1
  rename News _ _ _ _ => N1
  refine Stop.mk (id ?_)
  have hkl := congrArg List.length hms.keys
  simp only [List.length_map] at hkl
  refine sorted_dict (by rfl) F1 N1 (.tail _ (.tail _ (.tail _ (.tail _ (.tail _ hom))))) hmd hdm (by omega) ?_
  intro SD h1 tk1 sv ks e1 F2 N2 hlt1 hsv hks hksort
  obtain rfl : ks = st.ms.map (·.1) := pair_uniq (sorted_pair hksort) hkeys (by rw [← hms.keys]; exact hks)
  have hlv := hsv.length
  simp only [List.length_map] at hlv
  clear N1 F1
  refine' iter_list (J := fun i mm nx => nx = (SD, PySem.W.listOf sv.toArray e1) :: cells5 L o1 o2 o3 o4 o5 R ∧ mm (Str.ofString "wishes") = some (.ref fl) ∧ mm (Str.ofString "defaults") = some (.int (st.D) tD) ∧ ∃ tT, mm (Str.ofString "taken") = some (.int ((takenN st.ms i : Nat) : Int) tT)) ?hh F2 N2 ?hl ?J0 ?Jf ?turn ?done
  case hh => rfl
  case hl => exact .head _
  case J0 => exact ⟨rfl, by with_unfolding_all rfl, by with_unfolding_all rfl, _, by with_unfolding_all rfl⟩
  case Jf =>
    rintro i mm nx ⟨rfl, -⟩
    exact .head _
  case turn =>
    rintro i v m₁ news₁ h tk I io hv ⟨rfl, k1, k2, tT, k3⟩ hI F3 N3
    have F4 := fr_knownX F3 [(_, _), (_, _), (_, _)] ⟨k1, k2, k3, trivial⟩
    simp only [known] at F4
    clear F3 N2 F2
    obtain ⟨k', tt, x, y, ta, tx, ty, n, e, od, tw, rfl, hq, hva, hta, hor, hds, hod, hdd, hwa, hwd, hval, hx0, hx31, hy0, hy8⟩ := d_facts hsv hv hms (dict_nodup hmd) hso hWI hfin.1 hS31
    have upD : ∀ {a b : Addr × Obj} {o1 o2 o3 o4 o5 : Obj} {R : List (Addr × Obj)}, ∀ p ∈ R, p ∈ a :: b :: cells5 L o1 o2 o3 o4 o5 R := fun p hp => .tail _ (.tail _ (.tail _ (.tail _ (.tail _ (.tail _ (.tail _ hp))))))
    obtain ⟨bv, hbv⟩ : ∃ bv : Int, bv = (1 * 2 ^ y.toNat - 1) * 2 ^ x.toNat := ⟨_, rfl⟩
    k_steps
    rename Fr _ _ _ _ => F5
    rename News _ _ _ _ => N5
    refine Stop.mk (id ?_)
    refine mask_spec B F5 X N5 (upD _ hom) hdm hmd hva (upD _ hta) hx0 hx31 hy0 hy8 T rfl (by ktr_room) ?_
    intro h6 tk6 tr6 F6 N6
    rw [← hbv]
    clear F5 N5
    k_steps
    rename Fr _ _ _ _ => F7
    rename News _ _ _ _ => N7
    refine Stop.mk (id ?_)
    rcases hor with ⟨rfl, rfl, a3, a4⟩ | ⟨a1, a2, a3, a4, a5, a6, a7, a8⟩
    · refine eq_tupI (c := true) N7 (.tail _ (upD _ hta)) (.head _) (by ke_room) rfl ?_
      have hbv1 : bv = 1 := by rw [hbv]; rfl
      k_steps
      · exact absurd a3 (by assumption)
      · exact absurd hbv1 (by assumption)
      · rename Fr _ _ _ _ => F9
        rename News _ _ _ _ => N9
        show TurnE _ _ _ _ _ _ _
        exact ⟨_, _, _, _, rfl, F9, N9, .tail _ (.head _), _, fun p hp => .tail _ (.tail _ hp), hI, rfl, by with_unfolding_all rfl, by with_unfolding_all rfl, tT, by rw [taken_skip hq]; with_unfolding_all rfl⟩
    · refine eq_tupI (c := false) N7 (.tail _ (upD _ hta)) (.head _) (by ke_room) (by rw [show (x == 0) = false from by simp; omega]; rfl) ?_
      have hz0 := ent_bits hso hq a1 a2 a3 a4 hS31 a7 a8 hbv
      have q1 := hz0.1
      have q2 := hz0.2.1
      have q3 := hz0.2.2.1
      have q4 := hz0.2.2.2.1
      have q5 := hz0.2.2.2.2
      k_steps
      all_goals first
        | exact absurd q1 (by assumption)
        | exact absurd (by assumption) q2
        | exact absurd (by assumption) q3
        | exact absurd q5 (by assumption)
        | (rename Fr _ _ _ _ => F9
           rename News _ _ _ _ => N9
           show TurnE _ _ _ _ _ _ _
           refine ⟨_, _, _, _, rfl, F9, N9, .tail _ (.head _), _, fun p hp => .tail _ (.tail _ hp), hI, rfl, by with_unfolding_all rfl, by with_unfolding_all rfl, ?_⟩
           rw [← q4]
           exact ⟨_, by with_unfolding_all rfl⟩)
  case done =>
    rintro m₁ news₁ h tk ⟨rfl, k1, k2, tT, k3⟩ F3 N3
    clear N2 F2
    show wpAny _ _ _ _ _ _
    rw [hlv] at k3
    subst hst0
    exact next _ _ _ (.mk hO d1 d2 d3 d4 hfl hw hwl hwi hWI hk htl hts hnd hsub hlen hwsl hss hsort hdm hom hmd hms F3 k1 k2 k3 (news_sub N3 fun p hp => .tail _ hp))
theorem wish_bits {v x y bv : Int} (h0 : 0 ≤ v) (hx : 0 ≤ x) (h : v.toNat < 2 ^ y.toNat) (hbv : bv = (1 * 2 ^ y.toNat - 1) * 2 ^ x.toNat) : (Builtin.bitAnd (v * 2 ^ x.toNat) bv).fdiv (2 ^ x.toNat) = v := by
  rw [bv_eq] at hbv
  subst hbv
  have ev : v = ((v.toNat : Nat) : Int) := (Int.toNat_of_nonneg h0).symm
  have e : ((2 : Int) ^ x.toNat) = ((2 ^ x.toNat : Nat) : Int) := by simp
  rw [e, ev, ← Int.natCast_mul, bitAnd_nat, Int.fdiv_eq_ediv_of_nonneg _ (Int.natCast_nonneg _), ← Int.natCast_ediv, msk_get, Nat.mul_div_cancel _ (Nat.two_pow_pos _), Nat.mod_eq_of_lt h]
theorem kept_lt {x : WD} {i : WI} (hx : okW x) (hb : x.own = true ∨ 1 < x.v) (h0 : 0 ≤ i.v) (hm : i.v ≤ x.m) (hp : (!i.whole) = true → x.p = true) (hk : i.whole = false ∨ i.v = x.v) : i.v.toNat < 2 ^ (blen (wideD x)).toNat := by
  obtain ⟨w1, w2, w3⟩ := wide_ok hx hb
  cases ho : x.own with
  | true =>
    have e : wideD x = x.m := by unfold wideD; rw [if_pos ho]
    rw [e] at w3 ⊢
    exact pow_lt_mono (b := 0) h0 hm w3
  | false =>
    rcases hk with hk | hk
    · have hp1 := hp (by rw [hk]; rfl)
      unfold WD.own at ho
      rw [Bool.or_eq_false_iff, hp1, Bool.true_and] at ho
      have := of_decide_eq_false ho.2
      have : i.v = 0 := by omega
      rw [this]
      exact Nat.two_pow_pos _
    · rw [hk]
      exact pow_lt_mono (b := 0) hx.1 w2 w3
inductive MGet (R : List (Addr × Obj)) (ms : List (Str × Int × Int)) (k : Str) (v : Value) : Prop
  | mk (i : Nat) (x y : Int) (a : Addr) (tx ty : Tok) (n : Nat) : ms[i]? = some (k, x, y) → v = .ref a → (a, ({ cls := .type "tuple", data := .seq #[.int x tx, .int y ty] n } : Obj)) ∈ R → MGet R ms k v
theorem MsAre.at {R : List (Addr × Obj)} {kvs : List (Str × Value)} {ms : List (Str × Int × Int)} (h : MsAre R kvs ms) {k : Str} {v : Value} (hv : valueAt kvs k = some v) :
    MGet R ms k v := by
  induction h with
  | nil => simp [valueAt] at hv
  | @cons k' a x y tx ty n kvs ms h1 h2 ih =>
    by_cases e : k' = k
    · subst e
      refine ⟨0, x, y, a, tx, ty, n, rfl, ?_, h1⟩
      simpa [valueAt, eq_comm] using hv
    · obtain ⟨i, x, y, a, tx, ty, n, r1, r2, r3⟩ := ih (by simpa [valueAt, e] using hv)
      exact ⟨i + 1, x, y, a, tx, ty, n, r1, r2, r3⟩
inductive StE (prog : Program) (w : World) (base : Heap) (L : Addr) (o5 : Obj) (h : Heap) (m : Str → Option Value) : Prop
  | mk {o1 o2 o3 o4 om : Obj} {v1 : Option Value} {d tl dm : Addr} {nt : Nat} {ws : List WE} {tv : List Value} {ts ss : List Str} {kvs : List (Str × Value)} {R : List (Addr × Obj)} {tD : Tok}
    (hO : OffCs L R) (d1 : o1.data = .cell v1) (d2 : o2.data = .cell (some (.ref d))) (d3 : o3.data = .cell (some (.ref tl))) (d4 : o4.data = .cell (some (.ref dm)))
    (hWI : WantsIn prog w R d ws) (hk : okT (kx ws) ∧ totT (kx ws) ≤ 25) (htl : (tl, PySem.W.listOf tv.toArray nt) ∈ R) (hts : StrsAre tv ts) (hnd : ts.Nodup) (hsub : ∀ t ∈ ts, t ∈ ws.map (·.k)) (hlen : ts.length < 64) (hwsl : ws.length < 64)
    (hss : ss.Perm ts) (hsort : sortedS ss = true) (hdm : (dm == sysModules) = false) (hom : (dm, om) ∈ R) (hmd : om.IsDictOf (PySem.strKind prog w) kvs) (hms : MsAre R kvs (soRun ws ss).ms)
    (F : Fr base L h m) (hm2 : m (Str.ofString "defaults") = some (.int (soRun ws ss).D tD))
    (N : News base L h (cells5 L o1 o2 o3 o4 o5 R)) : StE prog w base L o5 h m


/-- what the turn of segE knows -/
inductive EF (prog : Program) (w : World) (R : List (Addr × Obj)) (ws : List WE) (wis : List WI) (d : Addr) (v : Value) : Prop
  | mk (a ad : Addr) (wi : WI) (tf : Nat → Tok) (n : Nat) (e : WE) (od : Obj) (tw : Nat → Tok) : v = .ref a → wi ∈ wis → (a, instObj 100 ad) ∈ R → (ad, wishO w wi tf n) ∈ R → lookW ws wi.tag = some e → wi.v ≤ e.x.m → ((!wi.whole) = true → e.x.p = true) →
      (d == sysModules) = false → (d, od) ∈ R → od.IsDictOf (PySem.strKind prog w) (ws.map fun e => (e.k, Value.ref e.a)) → (e.a, instObj 136 e.ad) ∈ R → (e.ad, wantO w e.x tw 4) ∈ R → valueAt (ws.map fun e => (e.k, Value.ref e.a)) wi.tag = some (.ref e.a) → EF prog w R ws wis d v
theorem e_facts {prog : Program} {w : World} {R : List (Addr × Obj)} {ws : List WE} {wis : List WI} {wv : List Value} {d : Addr} {i : Nat} {v : Value} (hw : WishesAre w R wv wis) (hv : wv[i]? = some v) (hhas : ∀ x ∈ wis, HasW (kx ws) x.tag x.v (!x.whole)) (hWI : WantsIn prog w R d ws) : EF prog w R ws wis d v := by
  obtain ⟨a, ad, wi, tf, n, rfl, hwi1, hw1, hw2⟩ := hw.get hv
  have hwim := List.mem_of_getElem? hwi1
  obtain ⟨ex, he1, he2, he3⟩ := hhas wi hwim
  rw [lookT_kx] at he1
  obtain ⟨e, hle, rfl⟩ : ∃ e, lookW ws wi.tag = some e ∧ e.x = ex := by
    cases hl : lookW ws wi.tag with
    | none => rw [hl] at he1; cases he1
    | some e => rw [hl] at he1; exact ⟨e, rfl, Option.some.inj he1⟩
  obtain ⟨hds, ⟨od, hod, hdd⟩, hWE⟩ := id hWI
  obtain ⟨hwa, tw, hwd⟩ := hWE e (lookW_mem hle).1
  exact ⟨a, ad, wi, tf, n, e, od, tw, rfl, hwim, hw1, hw2, hle, he2, he3, hds, hod, hdd, hwa, hwd, by rw [lookW_at, hle]; rfl⟩

set_option maxHeartbeats 2000000 in
theorem segE {prog : Program} {w : World} {p : Program} {loose : List Str} {mean : ExcName → Option Value} {mg mb : Str → Option Value} {base : Heap} {L la : Addr} {cd : Value} {m : Str → Option Value} {s : Shared} {Q : Flow → Shared → Prop} {E : Value → Shared → Prop}
    {o5 : Obj}
    (B : Below callerA base [] base) (X : (hd.heap_39 w.params).In base) (T : Top p loose mean mg mb base)
    (hA : StD prog w base L o5 s.heap m) (hE : PassesOwn (model prog w) (callerA.deeper (lawEnv L la cd)) (lawEnv L la cd) E)
    (next : ∀ h tk m', StE prog w base L o5 h m' → wpAny (model prog w) (callerA.deeper (lawEnv L la cd)) (execs (lawBody.drop 11) (lawEnv L la cd)) Q E { s with heap := h, toks := tk }) :
    wpAny (model prog w) (callerA.deeper (lawEnv L la cd)) (execs (lawBody.drop 9) (lawEnv L la cd)) Q E s := by
  with_unfolding_all change wpAny _ _ (execs (_ :: _ :: lawBody.drop 11) _) _ _ _
  generalize lawBody.drop 11 = rest at next ⊢
  simp only [lawEnv] at *
  rw [show lawScope = { kind := _, names := _, isGenerator := _, isCoroutine := _, more := _ } from by with_unfolding_all rfl] at next hE ⊢
  obtain @⟨o1, o2, o3, o4, om, v1, fl, d, tl, dm, nf, nt, wv, wis, ws, tv, ts, ss, kvs, R, ar, b, tD, tT, hO, d1, d2, d3, d4, hfl, hw, hwl, hwi, hWI, hk, htl, hts, hnd, hsub, hlen, hwsl, hss, hsort, hdm, hom, hmd, hms, F, hm, hm2, hm3, N⟩ := hA
  have hfin := final_ok ar b hwl fun x hx => (hwi x hx).2
  have hhas := hasW_mem wis (firstT ar b)
  rw [← hk] at hfin hhas
  have hS31 := S31 hfin.1 hfin.2.1 (hss.nodup_iff.mpr hnd)
  obtain ⟨Dn, hso⟩ := so_ok hfin.1 ss
  generalize hst0 : soRun ws ss = st at *
  have hfb := fin_bits hso
  have F0 := fr_known F [(_, _), (_, _), (_, _)] ⟨hm, hm2, hm3, trivial⟩
  simp only [known] at F0
  clear F
  k_steps
  · exact absurd hfb.1 (by assumption)
  · exact absurd hfb.2 (by assumption)
  rename Fr _ _ _ _ => F1
  rename News _ _ _ _ => N1
  refine Stop.mk (id ?_)
  show wpAny _ _ _ _ _ _
  refine' iter_list (J := fun i mm nx => nx = cells5 L o1 o2 o3 o4 o5 R ∧ mm (Str.ofString "defaults") = some (.int (st.D) tD)) ?hh F1 N1 ?hl ?J0 ?Jf ?turn ?done
  case hh => rfl
  case hl => exact .tail _ (.tail _ (.tail _ (.tail _ (.tail _ hfl))))
  case J0 => exact ⟨rfl, by with_unfolding_all rfl⟩
  case Jf =>
    rintro i mm nx ⟨rfl, -⟩
    exact .tail _ (.tail _ (.tail _ (.tail _ (.tail _ hfl))))
  case turn =>
    rintro i v m₁ news₁ h tk I io hv ⟨rfl, k2⟩ hI F3 N3
    have F4 := fr_knownX F3 [(_, _)] ⟨k2, trivial⟩
    simp only [known] at F4
    clear F3 N1 F1
    obtain ⟨a, ad, wi, tf, n, e, od, tw, rfl, hwim, hw1, hw2, hle, he2, he3, hds, hod, hdd, hwa, hwd, hval⟩ := e_facts hw hv hhas hWI
    cases hva : valueAt kvs wi.tag with
    | none =>
      k_steps
      rename Fr _ _ _ _ => F9
      rename News _ _ _ _ => N9
      show TurnE _ _ _ _ _ _ _
      exact ⟨_, _, _, _, rfl, F9, N9, .head _, _, fun p hp => .tail _ hp, hI, rfl, by with_unfolding_all rfl⟩
    | some vv =>
      obtain ⟨j, x, y, ta, tx, ty, n2, hq, rfl, hta⟩ := hms.at hva
      obtain ⟨e', hle', hor⟩ := hso.ent j _ _ _ hq
      obtain rfl : e = e' := Option.some.inj (hle.symm.trans hle')
      k_steps
      rename Fr _ _ _ _ => F5
      rename News _ _ _ _ => N5
      refine Stop.mk (id ?_)
      rcases hor with ⟨rfl, rfl, a3, a4⟩ | ⟨a1, a2, a3, a4, a5, a6, a7, a8⟩
      · refine ne_tupI (c := false) N5 (.tail _ (.tail _ (.tail _ (.tail _ (.tail _ (.tail _ (.tail _ hta))))))) (.head _) (by ke_room) rfl ?_
        k_steps
        rename Fr _ _ _ _ => F9
        rename News _ _ _ _ => N9
        show TurnE _ _ _ _ _ _ _
        exact ⟨_, _, _, _, rfl, F9, N9, .tail _ (.head _), _, fun p hp => .tail _ (.tail _ hp), hI, rfl, by with_unfolding_all rfl⟩
      · have heo := okE hfin.1 e (lookW_mem hle).1
        have hw1' := wide_ok heo a6
        have hbs := bits_small (x := wideD e.x) (Int.le_trans (by decide) hw1'.1) hw1'.2.2
        have hx0 : 0 ≤ x := Int.le_trans (by decide) a2
        have hy0 : 0 ≤ y := Int.le_trans (by decide) a3
        have hx31 : x ≤ 31 := Int.le_trans (Int.le_trans (Int.le_add_of_nonneg_right hy0) a4) hS31
        have hy8 : y ≤ 8 := by rw [a5]; exact Int.le_trans hbs.2 (by decide)
        have hv0 : 0 ≤ wi.v := (hwi wi hwim).2.1
        have hv9 : wi.v ≤ 9 := (hwi wi hwim).2.2
        obtain ⟨bv, hbv⟩ : ∃ bv : Int, bv = (1 * 2 ^ y.toNat - 1) * 2 ^ x.toNat := ⟨_, rfl⟩
        have hkb : (wi.whole = false ∨ wi.v = e.x.v) → (Builtin.bitAnd (wi.v * 2 ^ x.toNat) bv).fdiv (2 ^ x.toNat) = wi.v := fun hh => wish_bits hv0 hx0 (by rw [a5]; exact kept_lt heo a6 hv0 he2 he3 hh) hbv
        refine ne_tupI (c := true) N5 (.tail _ (.tail _ (.tail _ (.tail _ (.tail _ (.tail _ (.tail _ hta))))))) (.head _) (by ke_room) (by rw [show (x == 0) = false from by simp; omega]; rfl) ?_
        k_steps
        all_goals first
          | exact Bool.noConfusion ((show wi.whole = true by assumption).symm.trans (show wi.whole = false by assumption))
          | (rename Fr _ _ _ _ => F9
             rename News _ _ _ _ => N9
             show TurnE _ _ _ _ _ _ _
             exact ⟨_, _, _, _, rfl, F9, N9, .tail _ (.head _), _, fun p hp => .tail _ (.tail _ hp), hI, rfl, by with_unfolding_all rfl⟩)
          | (have hkept : wi.whole = false ∨ wi.v = e.x.v := by
               first
                 | exact .inr (by assumption)
                 | exact .inl (by assumption)
                 | exact .inl (by simpa using (show ¬ wi.whole = true by assumption))
             have hkb2 := hkb hkept
             rename Fr _ _ _ _ => F6
             rename News _ _ _ _ => N6
             refine Stop.mk (id ?_)
             refine mask_spec B F6 X N6 (.tail _ (.tail _ (.tail _ (.tail _ (.tail _ (.tail _ (.tail _ hom))))))) hdm hmd hva (.tail _ (.tail _ (.tail _ (.tail _ (.tail _ (.tail _ (.tail _ hta))))))) hx0 hx31 hy0 hy8 T rfl (by ktr_room) ?_
             intro h7 tk7 tr7 F7 N7
             rw [← hbv]
             clear F6 N6
             k_steps
             all_goals first
               | exact absurd hkb2 (by assumption)
               | (rename Fr _ _ _ _ => F9
                  rename News _ _ _ _ => N9
                  show TurnE _ _ _ _ _ _ _
                  exact ⟨_, _, _, _, rfl, F9, N9, .tail _ (.head _), _, fun p hp => .tail _ (.tail _ hp), hI, rfl, by with_unfolding_all rfl⟩))
  case done =>
    rintro m₁ news₁ h tk ⟨rfl, k2⟩ F3 N3
    show wpAny _ _ _ _ _ _
    subst hst0
    exact next _ _ _ (.mk hO d1 d2 d3 d4 hWI ⟨hfin.1, hfin.2.1⟩ htl hts hnd hsub hlen hwsl hss hsort hdm hom hmd hms F3 k2 N3)
section
variable {prog : Program} {w : World} {A : Around} {E : Value → Shared → Prop} {s : Shared} {h₀ : Heap} {L : Addr} {news : List (Addr × Obj)}
theorem in_strs {l : Addr} {vs : List Value} {ys : List Str} {k : Str} {t : Tok} {n : Nat} {c : Bool} {Q : Value → Shared → Prop} (N : News h₀ L s.heap news) (hm : (l, PySem.W.listOf vs.toArray n) ∈ news) (hi : StrsAre vs ys) (hk : decide (k ∈ ys) = c)
    (h : Q (.bool c) s) : wpAny (model prog w) A (compareOp .In (.str k t) (.ref l)) Q E s := by
  refine in_list_strs (News.isList N hm) hi ?_
  have : ys.any (· == k) = c := by
    rw [← hk]
    by_cases hh : k ∈ ys
    · rw [decide_eq_true hh]; exact List.any_eq_true.mpr ⟨k, hh, by simp⟩
    · rw [decide_eq_false hh]
      refine Bool.eq_false_iff.mpr fun h => hh ?_
      obtain ⟨x, hx, e⟩ := List.any_eq_true.mp h
      rw [← eq_of_beq e]; exact hx
  rw [this]
  exact h
theorem eq_nil {l b : Addr} {n n' : Nat} {Q : Value → Shared → Prop} (N : News h₀ L s.heap news) (hm : (l, PySem.W.listOf (List.toArray []) n) ∈ news) (hm' : (b, PySem.W.listOf (List.toArray []) n') ∈ news) (hu : A.units < cLine) (h : Q (.bool true) s) :
    wpAny (model prog w) A (compareOp .Eq (.ref l) (.ref b)) Q E s :=
  SeqAt.RcAt.lists (e := fun _ => true) (News.isList N hm) (News.isList N hm') rfl hu (fun j h1 _ => absurd h1 (Nat.not_lt_zero _)) prog w E Q h
theorem item_pair0 {D : Addr} {v1 v2 : Value} {n : Nat} {value slice : PySem.Expr} {u : Tok} {Q : Value → Shared → Prop} (N : News h₀ L s.heap news) (hm : (D, ({ cls := .type "tuple", data := .seq (List.toArray [v1, v2]) n } : Obj)) ∈ news) (h : Q v1 s)
    (hsu : subscripted slice false (.ref D) (.int 0 u) = operate [.ref D, .int 0 u] (getItem (.ref D) (.int 0 u)) := by with_unfolding_all rfl) (hg : ∀ r, letTemporaryGo value (.ref D) r = pure () := by intro _; with_unfolding_all rfl) :
    wpAny (model prog w) A (subscriptTail value slice (.ref D) (.int 0 u)) Q E s :=
  item_tupleL (l := [v1, v2]) (j := 0) (x := v1) ⟨_, (N _ hm).1, rfl, _, rfl⟩ (by decide) (by decide) rfl rfl h hsu hg
end

/-- which name goes into more -/
def moreP (ws : List WE) (ts : List Str) (t : Str) : Bool := decide (t ∈ ts) || match lookW ws t with
  | some e => decide (e.x.v = 1) && !e.x.own
  | none => false
theorem more_take {ws : List WE} {ts gs : List Str} {i : Nat} {x : Str} (h : gs[i]? = some x) : (gs.take (i + 1)).filter (moreP ws ts) = (gs.take i).filter (moreP ws ts) ++ if moreP ws ts x = true then [x] else [] := by
  rw [List.take_add_one, h, List.filter_append]
  congr 1
  show List.filter (moreP ws ts) [x] = _
  rw [List.filter_cons]
  rfl

theorem more_in {ws : List WE} {ts : List Str} {x : Str} (h : decide (x ∈ ts) = true) : moreP ws ts x = true := by
  unfold moreP; rw [h]; rfl
theorem more_eq {ws : List WE} {ts : List Str} {x : Str} {e : WE} (h : decide (x ∈ ts) = false) (hl : lookW ws x = some e) : moreP ws ts x = (decide (e.x.v = 1) && !e.x.own) := by
  unfold moreP; rw [h, hl]; rfl
section
set_option hygiene false in
local macro_rules | `(tactic| walk_at "exec Assign cons ListComp") => `(tactic| (k_here; k_dflt (refine LCt.Assign_ListComp_T (F₀ := by k_asm) (by rfl) (by with_unfolding_all rfl) (by with_unfolding_all rfl) (by decide) (by rfl) (by decide) (by rfl) (by rfl) (by rfl) ?_)))
set_option hygiene false in
local macro_rules | `(tactic| walk_at "compareOp In str ref") => `(tactic| (k_here; k_dflt (refine' in_strs (by k_asm) (by k_mem) (by assumption) (by assumption) ?_)))
set_option hygiene false in
local macro_rules | `(tactic| walk_at "call builtin:dict.get") => `(tactic| (k_here; k_dflt (refine' kdg_get1 (knd := PySem.strKind _ _) (by k_asm) (by k_mem) (by k_asm) (by k_asm) (strKind_is _ _ _ _) (some _) (by assumption) ?_); (try dsimp only [Option.getD])))

set_option hygiene false in
local macro_rules | `(tactic| walk_at "subscriptTail") => `(tactic| (k_here; (with_reducible show wpAny _ _ (subscriptTail _ _ (Value.ref _) (Value.int 0 _)) _ _ _); k_dflt (refine' item_pair0 (by k_asm) (by k_mem) ?_)))
set_option maxHeartbeats 2000000 in
theorem segF {prog : Program} {w : World} {p : Program} {loose : List Str} {mean : ExcName → Option Value} {mg mb : Str → Option Value} {base : Heap} {L la : Addr} {cd : Value} {m : Str → Option Value} {s : Shared} {Q : Flow → Shared → Prop} {E : Value → Shared → Prop}
    {o5 : Obj}
    (B : Below callerA base [] base) (X : (hd.heap_39 w.params).In base) (T : Top p loose mean mg mb base)
    (hA : StE prog w base L o5 s.heap m) (d5 : o5.data = .cell none)
    (fin : ∀ h tk m', Fr base L h m' → Q (.ret (.bool true)) { s with heap := h, toks := tk }) :
    wpAny (model prog w) (callerA.deeper (lawEnv L la cd)) (execs (lawBody.drop 11) (lawEnv L la cd)) Q E s := by
  with_unfolding_all change wpAny _ _ (execs (_ :: _ :: _ :: []) _) _ _ _
  simp only [lawEnv] at *
  rw [show lawScope = { kind := _, names := _, isGenerator := _, isCoroutine := _, more := _ } from by with_unfolding_all rfl]
  obtain @⟨o1, o2, o3, o4, om, v1, d, tl, dm, nt, ws, tv, ts, ss, kvs, R, tD, hO, d1, d2, d3, d4, hWI, hfin, htl, hts, hnd, hsub, hlen, hwsl, hss, hsort, hdm, hom, hmd, hms, F, hm2, N⟩ := hA
  obtain ⟨hds, ⟨od, hod, hdd⟩, hWE⟩ := id hWI
  have F0 := fr_known F [(_, _)] ⟨hm2, trivial⟩
  simp only [known] at F0
  clear F
  k_steps
  rename Fr _ _ _ _ => F1
  rename News _ _ _ _ => N1
  refine Stop.mk (id ?_)
  refine sorted_dict (by rfl) F1 N1 (.tail _ (.tail _ (.tail _ (.tail _ (.tail _ hod))))) hdd hds (by simpa using hwsl) ?_
  intro SD h1 tk1 sv gs e1 F2 N2 hlt1 hsv hgs hgsort
  have hlv := hsv.length
  have hgn : (ws.map (·.k)).Nodup := by rw [← keys_ws]; exact dict_nodup hdd
  have hgs2 : gs.Perm (ws.map (·.k)) := by rw [← keys_ws]; exact hgs
  have hgl := hgs2.length_eq
  simp only [List.length_map] at hgl
  skip
  refine LCt.CompSrcT.ledger (by rfl) F2 N2 (.head _) (by rw [PySem.sizeLine_eq]; simp only [List.size_toArray]; omega)
    (fun g => rest_T (fun i ys nx => nx = (SD, PySem.W.listOf sv.toArray e1) :: cells5 L o1 o2 o3 o4 o5 R ∧ StrsAre ys ((gs.take i).filter (moreP ws ts))) ?_ ?_ _ 0 [] _ (Nat.zero_add _) ⟨rfl, .nil⟩)
  · rintro ys nx ⟨rfl, k1⟩
    intro D h5 tk5 F5 N5 off5
    simp only [LCg.Off1] at off5
    clear N1 F1 N2 F2
    k_steps
    rename Fr _ _ _ _ => F6
    rename News _ _ _ _ => N6
    refine Stop.mk (id ?_)
    have k2 : StrsAre ys (gs.filter (moreP ws ts)) := by rwa [List.take_of_length_le (by simp only [List.size_toArray]; omega)] at k1
    have hgpm : ∀ t ∈ gs.filter (moreP ws ts), t ∈ ws.map (·.k) := fun t ht => hgs2.mem_iff.mp (List.mem_filter.mp ht).1
    have hgn2 : (gs.filter (moreP ws ts)).Nodup := (hgs2.nodup_iff.mpr hgn).sublist List.filter_sublist
    have hgl2 : (gs.filter (moreP ws ts)).length ≤ gs.length := List.length_filter_le _ _
    have hl2 := k2.length
    have up7 : ∀ {a b : Addr × Obj} {o1 o2 o3 o4 o5 : Obj} {R : List (Addr × Obj)}, ∀ p ∈ R, p ∈ a :: b :: cells5 L o1 o2 o3 o4 o5 R := fun p hp => .tail _ (.tail _ (.tail _ (.tail _ (.tail _ (.tail _ (.tail _ hp))))))
    refine so_spec (ts := gs.filter (moreP ws ts)) B F6 X N6 (wantsIn_mono hWI up7) (.head _) k2 (by omega) hgn2 (fun t ht => lookW_some (hgpm t ht)) (small_ok hfin.1) T rfl (by ktr_room) (fun l hl => S31 hfin.1 hfin.2 (hl.nodup_iff.mpr hgn2)) ?_
    intro h7 tk7 rt2 dm2 om2 kvs2 R3 ss2 tD2 hss2 hsort2 F7 N7 s1 s2 s3 s4 hdm2 hmd2 hms2
    obtain ⟨hDeq, hmsub⟩ := grown_run (ws := ws) (sorted_pair hsort2) (sorted_pair hsort) (hss2.nodup_iff.mpr hgn2) (hss.nodup_iff.mpr hnd)
      (fun t ht => hss2.mem_iff.mpr (List.mem_filter.mpr ⟨hgs2.mem_iff.mpr (hsub t (hss.mem_iff.mp ht)), more_in (decide_eq_true (hss.mem_iff.mp ht))⟩))
      (fun t ht hn => by
        have ht2 := (List.mem_filter.mp (hss2.mem_iff.mp ht))
        obtain ⟨e, hle⟩ := lookW_some (hgs2.mem_iff.mp ht2.1)
        have hno : decide (t ∈ ts) = false := decide_eq_false fun h => hn (hss.mem_iff.mpr h)
        have := ht2.2
        rw [more_eq hno hle, Bool.and_eq_true, decide_eq_true_eq, Bool.not_eq_true'] at this
        exact ⟨e, hle, this.2, this.1⟩)
    rw [hDeq] at N7
    obtain ⟨N8, O8⟩ := renorm (X := [(rt2, { cls := .type "tuple", data := .seq (List.toArray [Value.ref dm2, Value.int (soRun ws ss).D tD2]) 0 }), (dm2, om2)]) (by intro p hp; rcases List.mem_cons.mp hp with rfl | hp; rfl; rw [List.mem_singleton.mp hp]; exact nc_dict hmd2) N7 (fun p hp => s1 _ (.tail _ (.tail _ hp))) d1 d2 d3 d4 d5
    simp only [List.cons_append, List.nil_append] at N8 O8
    have hom3 : (dm, om) ∈ ncs R3 := mem_ncs (s1 _ (up7 _ hom)) (nc_dict hmd)
    have hms3 : MsAre (ncs R3) kvs (soRun ws ss).ms := msAre_ncs (hms.mono fun p hp => s1 _ (up7 _ hp))
    have hms2' := msAre_ncs hms2
    have k3 := hms3.look (dict_nodup hmd)
    have k4 := hms2'.look (dict_nodup hmd2)
    have e2 := congrArg List.length hms3.keys
    have e3 := hss.length_eq
    simp only [List.length_map] at e2
    have e4 := sublist_map_le (f := id) (l := ss) (r := (soRun ws ss).ms.map (·.1)) (by rw [List.map_id]; exact soRun_sub ws ss)
    simp only [List.length_map] at e4
    clear N6 N7 F6 hms2 hms hWI hom htl s1 s2 s3 s4 hms2'
    generalize ncs R3 = R4 at *
    k_steps
    rotate_left
    · exact absurd rfl (by assumption)
    rename Fr _ _ _ _ => F9
    rename News _ _ _ _ => N9
    rename Obj.data _ = Data.cell (some (Value.ref rt2)) => d5'
    refine Stop.mk (id ?_)
    show wpAny _ _ (eval (Expr.ListComp _ [⟨.Name _ _, _, [_], 0⟩] _ _) _) _ _ _
    refine' ListComp_DQ (F₀ := F9) ?h1 ?h2 ?h3 ?h4 ?h5 ?h6 ?h7
    case h1 => with_unfolding_all rfl
    case h2 => decide
    case h3 => rfl
    case h4 => decide
    case h5 => rfl
    case h7 => intro _; rfl
    intro QQ hQQ
    k_steps
    refine hQQ _ _ ?_
    have up8 : ∀ {b1 b2 : Addr × Obj} {o1 o2 o3 o4 o5 : Obj} {R : List (Addr × Obj)}, ∀ p ∈ R, p ∈ cells5 L o1 o2 o3 o4 o5 (b1 :: b2 :: R) := fun p hp => .tail _ (.tail _ (.tail _ (.tail _ (.tail _ (.tail _ (.tail _ hp))))))
    refine SrcD.mk (by rfl) F9 N9 (up8 _ hom3) hmd hdm (by omega) (fun g => rest_T (fun i ys nx => ys = [] ∧ nx = _) ?_ ?_ _ 0 [] _ (Nat.zero_add _) ⟨rfl, rfl⟩)
    · rintro ys nx ⟨rfl, rfl⟩
      intro D9 h9 tk9 F5 N5 off5
      simp only [LCg.Off1] at off5
      clear hQQ N9 k3 k4
      k_steps
      rename Fr _ _ _ _ => F10
      rename News _ _ _ _ => N10
      refine Stop.mk (id ?_)
      refine eq_nil N10 (.tail _ (.head _)) (.head _) (by ke_room) ?_
      k_steps
      rename Fr _ _ _ _ => F11
      exact fin _ _ _ F11
    · rintro i ys nx v I oI C oC D m₂ h2 tk2 E' hin ⟨rfl, rfl⟩ hv hoC hmx F3 N3 off3 ne3
      simp only [LCg.Off3] at off3
      obtain ⟨k, x, hx, hk2⟩ := hv
      obtain ⟨t, rfl⟩ := Value.isStrOf_shape hk2
      have hkt : k ∈ (soRun ws ss).ms.map (·.1) := by
        rw [← hms3.keys]
        exact List.mem_map.mpr ⟨_, List.mem_of_getElem? hx, rfl⟩
      obtain ⟨q, hq, rfl⟩ := List.mem_map.mp hkt
      obtain ⟨a1, tx1, ty1, n1, hv1, ha1⟩ := k3 q hq
      obtain ⟨a2, tx2, ty2, n2, hv2, ha2⟩ := k4 q (hmsub q hq)
      clear hQQ N9 k3 k4
      have up9 : ∀ {a b c b1 b2 : Addr × Obj} {o1 o2 o3 o4 o5 : Obj} {R : List (Addr × Obj)}, ∀ p ∈ R, p ∈ a :: b :: c :: cells5 L o1 o2 o3 o4 o5 (b1 :: b2 :: R) := fun p hp => .tail _ (.tail _ (.tail _ (up8 _ hp)))
      k_steps
      rename Fr _ _ _ _ => F6
      rename News _ _ _ _ => N6
      refine Stop.mk (id ?_)
      refine ne_tupI (c := false) N6 (up9 _ ha2) (up9 _ ha1) (by ke_room) (by simp) ?_
      k_steps
      rename Fr _ _ _ _ => F6
      rename News _ _ _ _ => N6
      refine Stop.mk (id ?_)
      exact ⟨_, _, _, rfl, F6, N6, off3, up8 _ hom3, rfl, rfl⟩
  · rintro i ys nx v I oI C oC D m₂ h2 tk2 E' hin ⟨rfl, k1⟩ hv hoC hmx F3 N3 off3 ne3
    simp only [LCg.Off3] at off3
    obtain ⟨x, t, rfl, hx⟩ := strsAre_get hsv (i := i) (v := v) (by simpa using hv)
    obtain ⟨e, hle⟩ := lookW_some (hgs2.mem_iff.mp (List.mem_of_getElem? hx))
    obtain ⟨hwa, tw, hwd⟩ := hWE e (lookW_mem hle).1
    have hval : valueAt (ws.map fun e => (e.k, Value.ref e.a)) x = some (.ref e.a) := by rw [lookW_at, hle]; rfl
    clear N1 F1 N2 F2
    cases hin2 : decide (x ∈ ts) with
    | true =>
      k_steps
      rename Fr _ _ _ _ => F6
      rename News _ _ _ _ => N6
      refine Stop.mk (id ?_)
      exact ⟨_, _, _, rfl, F6, N6, off3, .inr ⟨_, .head _, rfl, _, rfl⟩, rfl, by rw [more_take hx, if_pos (more_in hin2)]; exact strsAre_snoc k1 x t⟩
    | false =>
      k_steps
      all_goals
        rename Fr _ _ _ _ => F6
        rename News _ _ _ _ => N6
        refine Stop.mk (id ?_)
        first
          | (have hp : moreP ws ts x = true := by
               rw [more_eq hin2 hle, decide_eq_true (p := e.x.v = 1) (by assumption), show e.x.own = false by first | assumption | (rename ¬ _ => hh; simpa using hh)]; rfl
             exact ⟨_, _, _, rfl, F6, N6, off3, .inr ⟨_, .head _, rfl, _, rfl⟩, rfl, by rw [more_take hx, if_pos hp]; exact strsAre_snoc k1 x t⟩)
          | (have hp : moreP ws ts x = false := by
               rw [more_eq hin2 hle]
               first
                 | (rw [decide_eq_false (p := e.x.v = 1) (by assumption)]; rfl)
                 | (rw [show e.x.own = true by assumption, Bool.not_true, Bool.and_false])
             exact ⟨_, _, _, rfl, F6, N6, off3, .inr ⟨_, .head _, rfl, _, rfl⟩, rfl, by rw [more_take hx, hp]; simpa using k1⟩)
end
theorem law_all {prog : Program} {w : World} {p : Program} {loose : List Str} {mean : ExcName → Option Value} {mg mb : Str → Option Value} {base : Heap} {L la : Addr} {cd : Value} {m : Str → Option Value} {s : Shared} {Q : Flow → Shared → Prop} {E : Value → Shared → Prop}
    {o1 o2 o3 o4 o5 : Obj} {l : Addr} {vs : List Value} {ns : List Int}
    (B : Below callerA base [] base) (X : (hd.heap_39 w.params).In base) (T : Top p loose mean mg mb base)
    (F : Fr base L s.heap m) (N : News base L s.heap (cells5 L o1 o2 o3 o4 o5 [])) (hl : base.IsList l vs.toArray) (hi : IntsAre vs ns) (hlen : ns.length ≤ 63) (hm : m (Str.ofString "script") = some (.ref l))
    (d1 : o1.data = .cell none) (d2 : o2.data = .cell none) (d3 : o3.data = .cell none) (d4 : o4.data = .cell none) (d5 : o5.data = .cell none)
    (hE : PassesOwn (model prog w) (callerA.deeper (lawEnv L la cd)) (lawEnv L la cd) E)
    (fin : ∀ h tk m', Fr base L h m' → Q (.ret (.bool true)) { s with heap := h, toks := tk }) :
    wpAny (model prog w) (callerA.deeper (lawEnv L la cd)) (execs lawBody (lawEnv L la cd)) Q E s := 
  segA B X T F N hl hi hlen hm d1 d2 d3 d4 d5 fun _ _ _ h1 => segB B X T h1 d3 d4 d5 fun _ _ _ h2 => segC B X T h2 d4 d5 fun _ _ _ h3 =>
  segD B X T h3 hE fun _ _ _ h4 => segE B X T h4 hE fun _ _ _ h5 => segF B X T h5 d5 fun h tk m' hF => fin h tk m' hF
end Mine
open PySem PySem.W PyProof.Rows PySem.Spec PySem.Calls
set_option maxRecDepth 100000 in
set_option maxHeartbeats 8000000 in
theorem PySem.Challenge.cw_pb0164_01_holds : PySem.Challenge.rw_pb0164_01.Holds := by
  refine Mine.hd (by w_strict (k_go0; all_goals (
    rename Fr _ _ _ _ => F
    rename News _ _ _ _ => N0
    rename Below _ _ _ _ => K0
    rename CellsAre _ _ _ => X0
    rename IntsAre _ _ => hI
    rename Heap.IsList _ _ _ => hL
    rename Top _ _ _ _ _ _ => T
    rename (Mine.hd.heap_39 _).In _ => KX
    with_unfolding_all refine Mine.law_all (o1 := _) (o2 := _) (o3 := _) (o4 := _) (o5 := _) K0 KX T F N0 hL hI ?h1 ?hm ?d1 ?d2 ?d3 ?d4 ?d5 ?hE ?fin
    (case h1 => omega)
    (case hm => with_unfolding_all rfl)
    (case d1 => refine Eq.trans (by assumption) ?_; with_unfolding_all rfl)
    (case d2 => refine Eq.trans (by assumption) ?_; with_unfolding_all rfl)
    (case d3 => refine Eq.trans (by assumption) ?_; with_unfolding_all rfl)
    (case d4 => refine Eq.trans (by assumption) ?_; with_unfolding_all rfl)
    (case d5 => refine Eq.trans (by assumption) ?_; with_unfolding_all rfl)
    (case hE => passes_own)
    (case fin => intro h' tk' m' F'; clear F; dsimp only; k_steps))))
