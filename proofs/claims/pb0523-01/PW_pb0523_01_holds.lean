import PyProof.Rows.All
import Wide.All
import OpenK.AllK
import Wide.FinOn
import PySem.Challenge.RW_pb0523_01
open PySem PySem.W PyProof.Rows PySem.Spec PySem.Calls
set_option Elab.async false
set_option maxRecDepth 100000
set_option maxHeartbeats 0
namespace Mine
open_top hd for PySem.Challenge.rw_pb0523_01
noncomputable abbrev PP : Program := PySem.Challenge.rw_pb0523_01.row.prog
section
variable {prog : Program} {w : World} {A : Around} {E : Value → Shared → Prop} {s : Shared} {env : Env} {h₀ : Heap} {x : Str} {target : Expr} {body : List Stmt} {Q : Flow → Shared → Prop}
/-- how a turn ends: the iterator stands, the rest says J -/
def TurnEnd (h₀ : Heap) (L : Addr) (q : Addr × Obj) (J : (Str → Option Value) → List (Addr × Obj) → Prop) (s₁ s₂ : Shared) : Prop :=
  ∃ h' tk m' nx, s₂ = { s₁ with heap := h', toks := tk } ∧ Fr h₀ L h' m' ∧ News h₀ L h' (q :: nx) ∧ (∀ p ∈ nx, p.1 ≠ q.1) ∧ J m' nx
def TurnPost (h₀ : Heap) (L : Addr) (q : Addr × Obj) (J : (Str → Option Value) → List (Addr × Obj) → Prop) (s₁ : Shared) (Q : Flow → Shared → Prop) (f : Flow) (s₂ : Shared) : Prop :=
  match f with
  | .ret v => Q (.ret v) s₂
  | .brk => Q .next s₂
  | _ => TurnEnd h₀ L q J s₁ s₂
theorem own_eq {h : Heap} {I : Addr} {o : Obj} {p : Addr × Obj} (h1 : p.1 = I) (h2 : h.get? p.1 = some p.2) (h3 : h.get? I = some o) : p = (I, o) := by
  rw [h1] at h2
  exact Prod.ext h1 (Option.some.inj (h2.symm.trans h3))
theorem end_step {L I : Addr} {o : Obj} {own : List (Addr × Obj)} {J : (Str → Option Value) → List (Addr × Obj) → Prop} {s₁ s₂ : Shared} (ho : ∀ p ∈ own, p = (I, o) ∨ ∀ m nx, J m nx → p ∈ nx) (p : TurnEnd h₀ L (I, o) J s₁ s₂) : LoopStepU h₀ L [I] own J s₁ .next s₂ := by
  obtain ⟨h', tk', m', nx', e, F', N', hn, hj'⟩ := p
  refine ⟨rfl, h', tk', m', nx', e, F', fun p hp => ?_, fun p hp hI => hn p hp (List.mem_singleton.mp hI), hj'⟩
  rcases List.mem_append.mp hp with hp | hp
  · rcases ho p hp with rfl | h
    · exact N' _ (.head _)
    · exact N' _ (.tail _ (h _ _ hj'))
  · exact N' _ (.tail _ hp)
theorem post_step {L I : Addr} {o : Obj} {own : List (Addr × Obj)} {J : (Str → Option Value) → List (Addr × Obj) → Prop} {s₁ s₂ : Shared} {f : Flow} (ho : ∀ p ∈ own, p = (I, o) ∨ ∀ m nx, J m nx → p ∈ nx) (p : TurnPost h₀ L (I, o) J s₁ Q f s₂) :
    LoopStepV h₀ L [I] own J s₁ (fun v s' => Q (.ret v) s') (fun s' => Q .next s') f s₂ := by
  cases f with
  | ret v => exact .ret p
  | brk => exact .brk p
  | next => exact .next (end_step ho p)
  | cont => exact .cont (end_step ho p)
theorem news_own {L I : Addr} {o : Obj} {own nx : List (Addr × Obj)} {h : Heap} (hio : (I, o) ∈ own) (N : News h₀ L h (own ++ nx)) : News h₀ L h ((I, o) :: nx) := by
  intro p hp
  rcases List.mem_cons.mp hp with rfl | hp
  · exact N _ (List.mem_append.mpr (.inl hio))
  · exact N _ (List.mem_append.mpr (.inr hp))
theorem off_one {I : Addr} {nx : List (Addr × Obj)} (h : ∀ p ∈ nx, p.1 ∉ [I]) : ∀ p ∈ nx, p.1 ≠ I := fun p hp e => h p hp (List.mem_singleton.mpr e)
theorem at_one {a : Int} {i : Nat} : a + (i : Int) * 1 = a + (i : Int) := by rw [Int.mul_one]
theorem range_loop {r : Addr} {a₀ b₀ : Int} {t₀ u₀ v₀ : Tok} {n : Nat} {m₀ : Str → Option Value} {news : List (Addr × Obj)} (J : Nat → (Str → Option Value) → List (Addr × Obj) → Prop)
    (hh : A.handled = none) (hr : IsRange s.heap r a₀ b₀ 1 t₀ u₀ v₀) (hsmall : Builtin.Range.small a₀ b₀ 1 = true) (hsz : Builtin.Range.rangeSize a₀ b₀ 1 = (n : Int)) (F : Fr h₀ env.locals s.heap m₀) (N : News h₀ env.locals s.heap news) (hj : J 0 m₀ news)
    (turn : ∀ (i : Nat) (t : Tok) (m₁ : Str → Option Value) (nx : List (Addr × Obj)) (h : Heap) (tk : Nat) (I : Addr) (o : Obj), i < n → (∀ p ∈ nx, p.1 ≠ I) → J i m₁ nx → Fr h₀ env.locals h (fun y => if y = x then some (.int (a₀ + i) t) else m₁ y) → News h₀ env.locals h ((I, o) :: nx) →
      wpAny (model prog w) A (execs body env) (TurnPost h₀ env.locals (I, o) (J (i + 1)) { s with heap := h, toks := tk } Q) E { s with heap := h, toks := tk })
    (done : ∀ m₁ nx h tk, J n m₁ nx → Fr h₀ env.locals h m₁ → News h₀ env.locals h nx → Q .next { s with heap := h, toks := tk }) :
    wpAny (model prog w) A (pyIter (.ref r)) (fun it s₂ => LoopAtV prog w A h₀ env x body Q E it s₂) E s := by
  refine wpAny_pyIter_range hr hsmall ?_
  have hI0 : h₀.get? s.heap.objs.size = none := next_is_new F
  refine ⟨s.heap.objs.size, [s.heap.objs.size], [s.heap.objs.size], n, fun i v => ∃ t, v = .int (a₀ + i * 1) t, _, m₀, news, J, rfl, Walks.range hh _ a₀ 1 n, ?_, ?_, ?_, ?_, F.push _, fun p hp => ⟨Heap.get?_push_of_some _ (N p hp).1, (N p hp).2⟩, hj, ?_, ?_⟩
  · intro hm
    exact absurd F.ns.lt ((List.mem_singleton.mp hm) ▸ Nat.lt_irrefl _)
  · intro b hb
    rw [List.mem_singleton.mp hb]; exact hI0
  · intro p hp hI
    exact absurd (Heap.lt_size (N p hp).1) ((List.mem_singleton.mp hI) ▸ Nat.lt_irrefl _)
  · show IsRangeIter _ _ _ _ _
    rw [hsz]; simpa using Heap.get?_push_size _ rfl
  · rintro i v m₁ nx s₁ own ⟨h, tk, rfl⟩ hin ⟨t, rfl⟩ hJ hoff hown hget hall hst F₁ N₁
    rw [at_one] at F₁
    exact wpAny_mono (turn i t m₁ nx h tk s.heap.objs.size _ hin (off_one hoff) hJ F₁ (news_own (hall _ (List.mem_singleton.mpr rfl) hI0 _ hst) N₁)) (fun f s₂ p => post_step (fun p hp => .inl (own_eq (List.mem_singleton.mp (hown p hp)) (hget p hp) hst)) p) fun _ _ e => e
  · rintro h' tk m' news' F' N' _ hJ
    exact done m' news' h' tk hJ F' N'

theorem own_two {I ax : Addr} {o lo : Obj} {own : List (Addr × Obj)} {h : Heap} {J : (Str → Option Value) → List (Addr × Obj) → Prop} (hown : ∀ p ∈ own, p.1 ∈ [I, ax]) (hget : ∀ p ∈ own, h.get? p.1 = some p.2) (ho : h.get? I = some o) (hlo : h.get? ax = some lo) :
    ∀ p ∈ own, p = (I, o) ∨ ∀ m nx, ((ax, lo) ∈ nx ∧ J m nx) → p ∈ nx := fun p hp =>
  (List.mem_cons.mp (hown p hp)).elim (fun h1 => .inl (own_eq h1 (hget p hp) ho)) fun h1 => .inr fun _ _ q => by
    rw [own_eq (List.mem_singleton.mp h1) (hget p hp) hlo]; exact q.1
theorem seq_loop {ax I : Addr} {lo : Obj} {n : Nat} {P : Nat → Value → Prop} {St : Nat → Heap → Prop} {m₀ : Str → Option Value} {news : List (Addr × Obj)} (J : Nat → (Str → Option Value) → List (Addr × Obj) → Prop)
    {hp : Heap} {tk0 : Nat} (W : Walks prog w A I [I, ax] [I] n P St) (hgo : ∀ i v (s : Shared) (Q : Unit → Shared → Prop) (E : Value → Shared → Prop), St i s.heap → Q () s → wpAny (model prog w) A (letOwnedTupleGo target (.ref I) v) Q E s)
    (hob : ∀ i h, St i h → ∃ o, h.get? I = some o) (hI0 : h₀.get? I = none) (hne : ax ≠ I) (hIL : env.locals ≠ I) (hnI : ∀ p ∈ news, p.1 ≠ I) (hst : St 0 hp)
    (hm : (ax, lo) ∈ news) (F : Fr h₀ env.locals hp m₀) (N : News h₀ env.locals hp news) (hj : J 0 m₀ news)
    (turn : ∀ (i : Nat) (v : Value) (m₁ : Str → Option Value) (nx : List (Addr × Obj)) (h : Heap) (tk : Nat) (I : Addr) (o : Obj), i < n → P i v → (∀ p ∈ nx, p.1 ≠ I) → (ax, lo) ∈ nx → J i m₁ nx → Fr h₀ env.locals h m₁ → News h₀ env.locals h ((I, o) :: nx) →
      wpAny (model prog w) A (assign target env v) (fun _ s₃ => wpAny (model prog w) A (execs body env) (TurnPost h₀ env.locals (I, o) (fun m' nx' => (ax, lo) ∈ nx' ∧ J (i + 1) m' nx') { s with heap := h, toks := tk } Q) E s₃) E { s with heap := h, toks := tk })
    (done : ∀ m₁ nx h tk, J n m₁ nx → Fr h₀ env.locals h m₁ → News h₀ env.locals h nx → Q .next { s with heap := h, toks := tk }) :
    TurnsAt prog w A h₀ env target body Q E (.ref I) { s with heap := hp, toks := tk0 } := by
  have hax := N _ hm
  refine ⟨I, [I, ax], [I], n, _, _, St, m₀, news, fun i m nx => (ax, lo) ∈ nx ∧ J i m nx, rfl, KTurns.ofWalks W hgo, ?_, ?_, ?_, hst, F, N, ⟨hm, hj⟩, ?_, ?_⟩
  · intro hI
    rcases List.mem_cons.mp hI with e | hI
    · exact hIL e
    · exact hax.2.1 (List.mem_singleton.mp hI).symm
  · intro b hb
    rw [List.mem_singleton.mp hb]; exact hI0
  · intro p hp hI
    exact hnI p hp (List.mem_singleton.mp hI)
  · rintro i v m₁ nx h tk own hin hP ⟨hmx, hJ⟩ hoff hown hget hall hst₁ F₁ N₁
    obtain ⟨o, ho⟩ := hob _ _ hst₁
    exact wpAny_mono (turn i v m₁ nx h tk I o hin hP (off_one hoff) hmx hJ F₁ (news_own (hall _ (List.mem_cons_self ..) hI0 _ ho) N₁)) (fun _ s₃ h₃ => wpAny_mono h₃ (fun f s₂ p => post_step (own_two hown hget ho (N₁ _ (List.mem_append.mpr (.inr hmx))).1) p) fun _ _ e => e) fun _ _ e => e
  · rintro h' tk m' news' F' N' _ ⟨_, hJ⟩
    exact done m' news' h' tk hJ F' N'

theorem tuple_loop {ax : Addr} {lo : Obj} {vs : List Value} {n : Nat} {m₀ : Str → Option Value} {news : List (Addr × Obj)} (J : Nat → (Str → Option Value) → List (Addr × Obj) → Prop)
    (hh : A.handled = none) (F : Fr h₀ env.locals s.heap m₀) (N : News h₀ env.locals s.heap news) (hm : (ax, lo) ∈ news) (hc : lo.cls = .type "tuple") (hd : lo.data = .seq vs.toArray n) (hj : J 0 m₀ news)
    (turn : ∀ (i : Nat) (v : Value) (m₁ : Str → Option Value) (nx : List (Addr × Obj)) (h : Heap) (tk : Nat) (I : Addr) (o : Obj), i < vs.length → vs[i]? = some v → (∀ p ∈ nx, p.1 ≠ I) → (ax, lo) ∈ nx → J i m₁ nx → Fr h₀ env.locals h m₁ → News h₀ env.locals h ((I, o) :: nx) →
      wpAny (model prog w) A (assign target env v) (fun _ s₃ => wpAny (model prog w) A (execs body env) (TurnPost h₀ env.locals (I, o) (fun m' nx' => (ax, lo) ∈ nx' ∧ J (i + 1) m' nx') { s with heap := h, toks := tk } Q) E s₃) E { s with heap := h, toks := tk })
    (done : ∀ m₁ nx h tk, J vs.length m₁ nx → Fr h₀ env.locals h m₁ → News h₀ env.locals h nx → Q .next { s with heap := h, toks := tk }) :
    wpAny (model prog w) A (pyIter (.ref ax)) (fun it s₂ => TurnsAt prog w A h₀ env target body Q E it s₂) E s := by
  have hax := N _ hm
  have hl : s.heap.IsTuple ax vs.toArray := ⟨lo, hax.1, hc, n, hd⟩
  have hne : ax ≠ s.heap.objs.size := Nat.ne_of_lt (Heap.lt_size hax.1)
  refine wpAny_pyIter_tuple hl ?_
  refine seq_loop (tk0 := s.toks) (n := vs.length) (P := fun i v => vs[i]? = some v) (St := fun i h => h.IsTupleIter s.heap.objs.size ax i ∧ h.IsTuple ax vs.toArray) J ?_ (fun i v s Q E st q => letGo_tupleiter st.1 q) (fun i h st => ?_) (next_is_new F) hne (fun e => absurd F.ns.lt (e ▸ Nat.lt_irrefl _)) (fun p hp e => absurd (Heap.lt_size (N p hp).1) (e ▸ Nat.lt_irrefl _)) ?_ hm (F.push _) (fun p hp => ⟨Heap.get?_push_of_some _ (N p hp).1, (N p hp).2⟩) hj turn done
  · have W := Walks.tuple (prog := prog) (w := w) hh s.heap.objs.size ax hne vs.toArray
    simpa using W
  · obtain ⟨it, hit, _⟩ := st.1
    exact ⟨it, hit⟩
  · exact ⟨⟨_, Heap.get?_push_size _ rfl, rfl, rfl⟩, hl.at fun o e => Heap.get?_push_of_some _ e⟩
theorem list_loop {ax : Addr} {lo : Obj} {vs : List Value} {n : Nat} {m₀ : Str → Option Value} {news : List (Addr × Obj)} (J : Nat → (Str → Option Value) → List (Addr × Obj) → Prop)
    (hh : A.handled = none) (F : Fr h₀ env.locals s.heap m₀) (N : News h₀ env.locals s.heap news) (hm : (ax, lo) ∈ news) (hc : lo.cls = .type "list") (hd : lo.data = .seq vs.toArray n) (hj : J 0 m₀ news)
    (turn : ∀ (i : Nat) (v : Value) (m₁ : Str → Option Value) (nx : List (Addr × Obj)) (h : Heap) (tk : Nat) (I : Addr) (o : Obj), i < vs.length → vs[i]? = some v → (∀ p ∈ nx, p.1 ≠ I) → (ax, lo) ∈ nx → J i m₁ nx → Fr h₀ env.locals h m₁ → News h₀ env.locals h ((I, o) :: nx) →
      wpAny (model prog w) A (assign target env v) (fun _ s₃ => wpAny (model prog w) A (execs body env) (TurnPost h₀ env.locals (I, o) (fun m' nx' => (ax, lo) ∈ nx' ∧ J (i + 1) m' nx') { s with heap := h, toks := tk } Q) E s₃) E { s with heap := h, toks := tk })
    (done : ∀ m₁ nx h tk, J vs.length m₁ nx → Fr h₀ env.locals h m₁ → News h₀ env.locals h nx → Q .next { s with heap := h, toks := tk }) :
    wpAny (model prog w) A (pyIter (.ref ax)) (fun it s₂ => TurnsAt prog w A h₀ env target body Q E it s₂) E s := by
  have hax := N _ hm
  have hl : s.heap.IsList ax vs.toArray := ⟨lo, hax.1, hc, n, hd⟩
  have hne : ax ≠ s.heap.objs.size := Nat.ne_of_lt (Heap.lt_size hax.1)
  refine wpAny_pyIter_list hl ?_
  refine seq_loop (tk0 := s.toks) (n := vs.length) (P := fun i v => vs[i]? = some v) (St := fun i h => h.IsListIter s.heap.objs.size ax i ∧ h.IsList ax vs.toArray) J ?_ (fun i v s Q E st q => letGo_listiter st.1 q) (fun i h st => ?_) (next_is_new F) hne (fun e => absurd F.ns.lt (e ▸ Nat.lt_irrefl _)) (fun p hp e => absurd (Heap.lt_size (N p hp).1) (e ▸ Nat.lt_irrefl _)) ?_ hm (F.push _) (fun p hp => ⟨Heap.get?_push_of_some _ (N p hp).1, (N p hp).2⟩) hj turn done
  · have W := Walks.list (prog := prog) (w := w) hh s.heap.objs.size ax hne vs.toArray
    simpa using W
  · obtain ⟨it, hit, _⟩ := st.1
    exact ⟨it, hit⟩
  · exact ⟨⟨_, Heap.get?_push_size _ rfl, rfl, rfl⟩, hl.at fun o e => Heap.get?_push_of_some _ e⟩
end
theorem fr_mask {h₀ h : Heap} {L : Addr} {m m₀ : Str → Option Value} (names : List Str) (hm : ∀ y, names.contains y = false → m y = m₀ y) (F : Fr h₀ L h m) : Fr h₀ L h (fun y => if names.contains y then m y else m₀ y) := by
  have e : (fun y => if names.contains y then m y else m₀ y) = m := by
    funext y
    by_cases hy : names.contains y = true
    · simp only [hy, if_true]
    · have hy' : names.contains y = false := by simpa using hy
      simp only [hy', Bool.false_eq_true, if_false]
      exact (hm y hy').symm
  rw [e]; exact F
section
variable {prog : Program} {w : World} {A : Around} {E : Value → Shared → Prop} {s : Shared} {env : Env} {h₀ : Heap} {x : Str} {target : Expr} {body : List Stmt} {Q : Flow → Shared → Prop}
/-- a loop over a tuple whose turn turns one object d, some names and makes what it drops -/
theorem tuple_acc (names : List Str) {ax d : Addr} {lo o₀ : Obj} {vs : List Value} {n : Nat} {m₀ : Str → Option Value} {rest : List (Addr × Obj)} (Ob : Nat → Obj → Prop)
    (hh : A.handled = none) (F : Fr h₀ env.locals s.heap m₀) (N : News h₀ env.locals s.heap ((ax, lo) :: (d, o₀) :: rest)) (hc : lo.cls = .type "tuple") (hd : lo.data = .seq vs.toArray n) (hO : Ob 0 o₀)
    (turn : ∀ (i : Nat) (v : Value) (o₁ : Obj) (u : Str → Option Value) (h : Heap) (tk : Nat) (I : Addr) (o : Obj), i < vs.length → vs[i]? = some v → Ob i o₁ → ax ≠ I → d ≠ I → (∀ p ∈ rest, p.1 ≠ I) →
      Fr h₀ env.locals h (fun y => if names.contains y then u y else m₀ y) → News h₀ env.locals h ((I, o) :: (ax, lo) :: (d, o₁) :: rest) →
      wpAny (model prog w) A (assign target env v) (fun _ s₃ => wpAny (model prog w) A (execs body env) (TurnPost h₀ env.locals (I, o) (fun m' nx' => (ax, lo) ∈ nx' ∧ (∀ y, names.contains y = false → m' y = m₀ y) ∧ ∃ o', Ob (i + 1) o' ∧ nx' = (ax, lo) :: (d, o') :: rest) { s with heap := h, toks := tk } Q) E s₃) E { s with heap := h, toks := tk })
    (done : ∀ (o₁ : Obj) (u : Str → Option Value) (h : Heap) (tk : Nat), Ob vs.length o₁ → Fr h₀ env.locals h (fun y => if names.contains y then u y else m₀ y) → News h₀ env.locals h ((ax, lo) :: (d, o₁) :: rest) → Q .next { s with heap := h, toks := tk }) :
    wpAny (model prog w) A (pyIter (.ref ax)) (fun it s₂ => TurnsAt prog w A h₀ env target body Q E it s₂) E s := by
  refine tuple_loop (vs := vs) (n := n) (fun i m nx => (∀ y, names.contains y = false → m y = m₀ y) ∧ ∃ o', Ob i o' ∧ nx = (ax, lo) :: (d, o') :: rest) hh F N (.head _) hc hd ⟨fun _ _ => rfl, o₀, hO, rfl⟩ ?_ ?_
  · rintro i v m₁ nx h tk I o hi hv hne hmem ⟨hm, o₁, hO₁, rfl⟩ F₁ N₁
    exact turn i v o₁ m₁ h tk I o hi hv hO₁ (hne _ (.head _)) (hne _ (.tail _ (.head _))) (fun p hp => hne p (.tail _ (.tail _ hp))) (fr_mask names hm F₁) N₁
  · rintro m₁ nx h tk ⟨hm, o₁, hO₁, rfl⟩ F₁ N₁
    exact done o₁ m₁ h tk hO₁ (fr_mask names hm F₁) N₁
end
theorem turn_acc {names : List Str} {m₀ m' : Str → Option Value} {ax d I : Addr} {lo o o' : Obj} {rest all : List (Addr × Obj)} {Ob : Nat → Obj → Prop} {i : Nat} {L : Addr} {h₀ h' : Heap} {tk : Nat} {s₁ : Shared} {Q : Flow → Shared → Prop}
    (F : Fr h₀ L h' m') (N : News h₀ L h' all) (h1 : (I, o) ∈ all) (h2 : (ax, lo) ∈ all) (h3 : (d, o') ∈ all) (h4 : ∀ q ∈ rest, q ∈ all) (n1 : ax ≠ I) (n2 : d ≠ I) (n3 : ∀ p ∈ rest, p.1 ≠ I) (hm : ∀ y, names.contains y = false → m' y = m₀ y) (hO : Ob (i + 1) o') :
    TurnPost h₀ L (I, o) (fun m' nx' => (ax, lo) ∈ nx' ∧ (∀ y, names.contains y = false → m' y = m₀ y) ∧ ∃ o', Ob (i + 1) o' ∧ nx' = (ax, lo) :: (d, o') :: rest) s₁ Q .next { s₁ with heap := h', toks := tk } := by
  refine ⟨h', tk, m', (ax, lo) :: (d, o') :: rest, rfl, F, ?_, ?_, .head _, hm, o', hO, rfl⟩
  · intro q hq
    rcases List.mem_cons.mp hq with rfl | hq
    · exact N _ h1
    · rcases List.mem_cons.mp hq with rfl | hq
      · exact N _ h2
      · rcases List.mem_cons.mp hq with rfl | hq
        · exact N _ h3
        · exact N _ (h4 q hq)
  · intro q hq
    rcases List.mem_cons.mp hq with rfl | hq
    · exact n1
    · rcases List.mem_cons.mp hq with rfl | hq
      · exact n2
      · exact n3 q hq
section
variable {prog : Program} {w : World} {A : Around} {E : Value → Shared → Prop} {s : Shared} {env : Env} {h₀ : Heap} {x : Str} {target : Expr} {body : List Stmt} {Q : Flow → Shared → Prop}
theorem fr_mask1 {h : Heap} {L : Addr} {m m₀ : Str → Option Value} {v : Option Value} (names : List Str) (hm : ∀ y, names.contains y = false → m y = m₀ y) (F : Fr h₀ L h (fun y => if y = x then v else m y)) : Fr h₀ L h (fun y => if y = x then v else if names.contains y then m y else m₀ y) := by
  have e : (fun y => if y = x then v else if names.contains y then m y else m₀ y) = (fun y => if y = x then v else m y) := by
    funext y
    by_cases hy : names.contains y = true
    · simp only [hy, if_true]
    · have hy' : names.contains y = false := by simpa using hy
      simp only [hy', Bool.false_eq_true, if_false, hm y hy']
  rw [e]; exact F
theorem fr_mask2 {h : Heap} {L : Addr} {m m₀ : Str → Option Value} {p q : Str} {a b : Value} (names : List Str) (hm : ∀ y, names.contains y = false → m y = m₀ y) (hp : m p = some a) (hq : m q = some b) (F : Fr h₀ L h m) :
    Fr h₀ L h (fun y => if y = p then some a else if y = q then some b else if names.contains y then m y else m₀ y) := by
  have e : (fun y => if y = p then some a else if y = q then some b else if names.contains y then m y else m₀ y) = m := by
    funext y
    by_cases h1 : y = p
    · rw [if_pos h1, h1, hp]
    · rw [if_neg h1]
      by_cases h2 : y = q
      · rw [if_pos h2, h2, hq]
      · rw [if_neg h2]
        by_cases hy : names.contains y = true
        · rw [if_pos hy]
        · rw [if_neg hy]
          exact (hm y (by simpa using hy)).symm
  rw [e]; exact F
/-- a loop over a range whose turn turns some names and makes what it drops -/
theorem range_names (names : List Str) {r : Addr} {a₀ b₀ : Int} {t₀ u₀ v₀ : Tok} {n : Nat} {m₀ : Str → Option Value} {rest : List (Addr × Obj)}
    (hh : A.handled = none) (hr : IsRange s.heap r a₀ b₀ 1 t₀ u₀ v₀) (hsmall : Builtin.Range.small a₀ b₀ 1 = true) (hsz : Builtin.Range.rangeSize a₀ b₀ 1 = (n : Int)) (F : Fr h₀ env.locals s.heap m₀) (N : News h₀ env.locals s.heap rest)
    (turn : ∀ (i : Nat) (t : Tok) (u : Str → Option Value) (h : Heap) (tk : Nat) (I : Addr) (o : Obj), i < n → (∀ p ∈ rest, p.1 ≠ I) → Fr h₀ env.locals h (fun y => if y = x then some (.int (a₀ + i) t) else if names.contains y then u y else m₀ y) → News h₀ env.locals h ((I, o) :: rest) →
      wpAny (model prog w) A (execs body env) (TurnPost h₀ env.locals (I, o) (fun m' nx' => (∀ y, names.contains y = false → m' y = m₀ y) ∧ nx' = rest) { s with heap := h, toks := tk } Q) E { s with heap := h, toks := tk })
    (done : ∀ (u : Str → Option Value) (h : Heap) (tk : Nat), Fr h₀ env.locals h (fun y => if names.contains y then u y else m₀ y) → News h₀ env.locals h rest → Q .next { s with heap := h, toks := tk }) :
    wpAny (model prog w) A (pyIter (.ref r)) (fun it s₂ => LoopAtV prog w A h₀ env x body Q E it s₂) E s := by
  refine range_loop (fun _ m nx => (∀ y, names.contains y = false → m y = m₀ y) ∧ nx = rest) hh hr hsmall hsz F N ⟨fun _ _ => rfl, rfl⟩ ?_ ?_
  · rintro i t m₁ nx h tk I o hi hne ⟨hm, rfl⟩ F₁ N₁
    exact turn i t m₁ h tk I o hi hne (fr_mask1 names hm F₁) N₁
  · rintro m₁ nx h tk ⟨hm, rfl⟩ F₁ N₁
    exact done m₁ h tk (fr_mask names hm F₁) N₁
theorem turn_names {names : List Str} {m₀ m' : Str → Option Value} {I : Addr} {o : Obj} {rest all : List (Addr × Obj)} {L : Addr} {h' : Heap} {tk : Nat} {s₁ : Shared}
    (F : Fr h₀ L h' m') (N : News h₀ L h' all) (h1 : (I, o) ∈ all) (h4 : ∀ q ∈ rest, q ∈ all) (n3 : ∀ p ∈ rest, p.1 ≠ I) (hm : ∀ y, names.contains y = false → m' y = m₀ y) :
    TurnPost h₀ L (I, o) (fun m' nx' => (∀ y, names.contains y = false → m' y = m₀ y) ∧ nx' = rest) s₁ Q .next { s₁ with heap := h', toks := tk } := by
  refine ⟨h', tk, m', rest, rfl, F, ?_, n3, hm, rfl⟩
  intro q hq
  rcases List.mem_cons.mp hq with rfl | hq
  · exact N _ h1
  · exact N _ (h4 q hq)
/-- a loop over a list of the ledger whose turn turns two ints and some names -/
theorem list_two (names : List Str) (p q : Str) (f g : Nat → Int) {ax : Addr} {lo : Obj} {vs : List Value} {n : Nat} {m₀ : Str → Option Value} {rest : List (Addr × Obj)} {te tw : Tok}
    (hh : A.handled = none) (F : Fr h₀ env.locals s.heap m₀) (N : News h₀ env.locals s.heap ((ax, lo) :: rest)) (hc : lo.cls = .type "list") (hd : lo.data = .seq vs.toArray n) (hp : m₀ p = some (.int (f 0) te)) (hq : m₀ q = some (.int (g 0) tw))
    (turn : ∀ (i : Nat) (v : Value) (te tw : Tok) (u : Str → Option Value) (h : Heap) (tk : Nat) (I : Addr) (o : Obj), i < vs.length → vs[i]? = some v → ax ≠ I → (∀ p ∈ rest, p.1 ≠ I) →
      Fr h₀ env.locals h (fun y => if y = p then some (.int (f i) te) else if y = q then some (.int (g i) tw) else if names.contains y then u y else m₀ y) → News h₀ env.locals h ((I, o) :: (ax, lo) :: rest) →
      wpAny (model prog w) A (assign target env v) (fun _ s₃ => wpAny (model prog w) A (execs body env) (TurnPost h₀ env.locals (I, o) (fun m' nx' => (ax, lo) ∈ nx' ∧ ((∀ y, names.contains y = false → m' y = m₀ y) ∧ (∃ te, m' p = some (.int (f (i + 1)) te)) ∧ (∃ tw, m' q = some (.int (g (i + 1)) tw)) ∧ nx' = (ax, lo) :: rest)) { s with heap := h, toks := tk } Q) E s₃) E { s with heap := h, toks := tk })
    (done : ∀ (te tw : Tok) (u : Str → Option Value) (h : Heap) (tk : Nat), Fr h₀ env.locals h (fun y => if y = p then some (.int (f vs.length) te) else if y = q then some (.int (g vs.length) tw) else if names.contains y then u y else m₀ y) → News h₀ env.locals h ((ax, lo) :: rest) → Q .next { s with heap := h, toks := tk }) :
    wpAny (model prog w) A (pyIter (.ref ax)) (fun it s₂ => TurnsAt prog w A h₀ env target body Q E it s₂) E s := by
  refine list_loop (vs := vs) (n := n) (fun i m nx => (∀ y, names.contains y = false → m y = m₀ y) ∧ (∃ te, m p = some (.int (f i) te)) ∧ (∃ tw, m q = some (.int (g i) tw)) ∧ nx = (ax, lo) :: rest) hh F N (.head _) hc hd ⟨fun _ _ => rfl, ⟨te, hp⟩, ⟨tw, hq⟩, rfl⟩ ?_ ?_
  · rintro i v m₁ nx h tk I o hi hv hne hmem ⟨hm, ⟨te, h1⟩, ⟨tw, h2⟩, rfl⟩ F₁ N₁
    exact turn i v te tw m₁ h tk I o hi hv (hne _ (.head _)) (fun p hp => hne p (.tail _ hp)) (fr_mask2 names hm h1 h2 F₁) N₁
  · rintro m₁ nx h tk ⟨hm, ⟨te, h1⟩, ⟨tw, h2⟩, rfl⟩ F₁ N₁
    exact done te tw m₁ h tk (fr_mask2 names hm h1 h2 F₁) N₁
theorem turn_two {names : List Str} {p q : Str} {f g : Nat → Int} {i : Nat} {m₀ m' : Str → Option Value} {ax I : Addr} {lo o : Obj} {rest all : List (Addr × Obj)} {L : Addr} {h' : Heap} {tk : Nat} {s₁ : Shared}
    (F : Fr h₀ L h' m') (N : News h₀ L h' all) (h1 : (I, o) ∈ all) (h2 : (ax, lo) ∈ all) (h4 : ∀ q ∈ rest, q ∈ all) (n1 : ax ≠ I) (n3 : ∀ p ∈ rest, p.1 ≠ I) (hm : ∀ y, names.contains y = false → m' y = m₀ y) (hp : ∃ te, m' p = some (.int (f (i + 1)) te)) (hq : ∃ tw, m' q = some (.int (g (i + 1)) tw)) :
    TurnPost h₀ L (I, o) (fun m' nx' => (ax, lo) ∈ nx' ∧ ((∀ y, names.contains y = false → m' y = m₀ y) ∧ (∃ te, m' p = some (.int (f (i + 1)) te)) ∧ (∃ tw, m' q = some (.int (g (i + 1)) tw)) ∧ nx' = (ax, lo) :: rest)) s₁ Q .next { s₁ with heap := h', toks := tk } := by
  refine ⟨h', tk, m', (ax, lo) :: rest, rfl, F, ?_, ?_, .head _, hm, hp, hq, rfl⟩
  · intro q hq
    rcases List.mem_cons.mp hq with rfl | hq
    · exact N _ h1
    · rcases List.mem_cons.mp hq with rfl | hq
      · exact N _ h2
      · exact N _ (h4 q hq)
  · intro q hq
    rcases List.mem_cons.mp hq with rfl | hq
    · exact n1
    · exact n3 q hq
/-- a goal that the walk leaves alone -/
structure Halt (P : Prop) : Prop where
  out : P
end
def NeA (a b : Nat) : Prop := a ≠ b
theorem neA {a b : Nat} (h : NeA a b) : a ≠ b := h
theorem NeA.symm {a b : Nat} (h : NeA b a) : NeA a b := fun e => h e.symm
theorem nea_lt {a b : Nat} (h : @LT.lt Nat _ a b) : NeA a b := Nat.ne_of_lt h
theorem nea_gt {a b : Nat} (h : @LT.lt Nat _ b a) : NeA a b := fun e => Nat.ne_of_lt h e.symm
theorem allLt_ne {d : Addr} {l : List (Addr × Obj)} (h : AllLt d l) : ∀ q ∈ l, q.1 ≠ d := fun q hq => Nat.ne_of_lt (ktn_ltOf h q hq)
theorem mem_fold {q : Addr × Obj} {l : List (Addr × Obj)} (h : q ∈ l) : List.Mem q l := h
structure HaltAt (x : Str) : Prop where
theorem ne_new {x d : Addr} {o : Obj} {l : List (Addr × Obj)} (h : ∀ p ∈ l, @LT.lt Nat _ p.1 d) (hm : (x, o) ∈ l) : NeA x d := fun e => absurd (h _ hm) (by rw [show (x, o).1 = d from e]; exact Nat.lt_irrefl _)
theorem ne_new2 {x d : Addr} {o : Obj} {l : List (Addr × Obj)} (h : ∀ p ∈ l, p.1 ≠ d) (hm : (x, o) ∈ l) : NeA x d := h _ hm
theorem all_new {d : Addr} {l : List (Addr × Obj)} (h : ∀ p ∈ l, @LT.lt Nat _ p.1 d) : ∀ q ∈ l, q.1 ≠ d := fun q hq => Nat.ne_of_lt (h q hq)
theorem all_new2 {d : Addr} {l l' : List (Addr × Obj)} (h : ∀ p ∈ l, @LT.lt Nat _ p.1 d) (hm : ∀ q ∈ l', q ∈ l) : ∀ q ∈ l', q.1 ≠ d := fun q hq => Nat.ne_of_lt (h q (hm q hq))
theorem room_of {dp j k r : Nat} (h : dp + k < r) (hj : j ≤ k) : dp + j < r := Nat.lt_of_le_of_lt (Nat.add_le_add_left hj dp) h
theorem unit_of {un j k r : Nat} (h : un + k < r) (hj : j ≤ k) : un + j < r := room_of h hj
section
variable {prog : Program} {w : World} {A : Around} {E : Value → Shared → Prop} {s : Shared} {env : Env} {h₀ : Heap} {L D : Addr} {m : Str → Option Value} {news news' : List (Addr × Obj)} {n : Nat}
theorem halt_assign {x : Str} {px pos : Pos} {e : PySem.Expr} {r : List Stmt} {Q : Flow → Shared → Prop} (_m : HaltAt x) (h : Halt (wpAny (model prog w) A (execs (Stmt.Assign [PySem.Expr.Name x px] e pos :: r) env) Q E s)) : wpAny (model prog w) A (execs (Stmt.Assign [PySem.Expr.Name x px] e pos :: r) env) Q E s := h.out
theorem tup2 {x y : Str} {px py tpos pos : Pos} {k : Nat} {value : PySem.Expr} {Q : Flow → Shared → Prop}
    (h : wpAny (model prog w) A (eval value env) (fun v s₁ => wpAny (model prog w) A (unpackItems v 2 none) (fun items s₂ => wpAny (model prog w) A (assignInOrder [bindName env y, bindName env x] items.reverse) (fun _ => Q .next) E s₂) E s₁) E s)
    (hs : swapsWithSole [.Tuple [.Name x px, .Name y py] k tpos] value pos.line env = pure false) (hw : swappedStores [.Tuple [.Name x px, .Name y py] k tpos] value env = pure (some [x, y])) :
    wpAny (model prog w) A (exec (.Assign [.Tuple [.Name x px, .Name y py] k tpos] value pos) env) Q E s := Assign_Tuple_swapped (names := [x, y]) h hs hw
theorem tup3 {x y z : Str} {px py pz tpos pos : Pos} {k : Nat} {value : PySem.Expr} {Q : Flow → Shared → Prop}
    (h : wpAny (model prog w) A (eval value env) (fun v s₁ => wpAny (model prog w) A (unpackItems v 3 none) (fun items s₂ => wpAny (model prog w) A (assignInOrder [bindName env z, bindName env y, bindName env x] items.reverse) (fun _ => Q .next) E s₂) E s₁) E s)
    (hs : swapsWithSole [.Tuple [.Name x px, .Name y py, .Name z pz] k tpos] value pos.line env = pure false) (hw : swappedStores [.Tuple [.Name x px, .Name y py, .Name z pz] k tpos] value env = pure (some [x, y, z])) :
    wpAny (model prog w) A (exec (.Assign [.Tuple [.Name x px, .Name y py, .Name z pz] k tpos] value pos) env) Q E s := Assign_Tuple_swapped (names := [x, y, z]) h hs hw
theorem my_len {vs : List Value} {Q : Value → Shared → Prop} (N : News h₀ L s.heap news) (hm : (D, listOf vs.toArray n) ∈ news) (hz : vs.length < 1000)
    (h : Q (.int vs.length (s.toks + 1)) { s with toks := s.toks + 1 + 1 }) : wpAny (model prog w) A (call (.builtin "len") [.ref D]) Q E s :=
  len_list (News.isList N hm) (by simp only [List.size_toArray]; omega) (by simpa using h)
theorem my_pop0 {y : Value} {q : List Value} {u : Tok} {Q : Value → Shared → Prop} (F : Fr h₀ L s.heap m) (N : News h₀ L s.heap news)
    (U : Upd D (listOf (y :: q).toArray n) (listOf q.toArray (n + 1)) news news') (hz : q.length < 1000)
    (h : ∀ h', Fr h₀ L h' m → News h₀ L h' news' → Q y { s with heap := h' }) : wpAny (model prog w) A (call (.builtin "list.pop") [.ref D, .int 0 u]) Q E s :=
  kl_popAt (p := []) (k := 0) F N rfl (by unfold seqIndex?; simp) rfl U (by rw [PySem.sizeLine_eq]; simp; omega) h
theorem at_nn {i : Nat} : (0 : Int) ≤ 0 + (i : Int) := by rw [Int.zero_add]; exact Int.natCast_nonneg i
theorem at_nat {i : Nat} : (0 + (i : Int)).toNat = i := by rw [Int.zero_add]; rfl
theorem at_lt {i : Nat} (h : i < 1000) : 0 + (i : Int) < 2 ^ 63 := by rw [Int.zero_add]; exact Int.lt_trans (Int.ofNat_lt.mpr h) (by decide)
theorem my_item {value slice : PySem.Expr} {vs : List Value} {i : Nat} {u : Tok} {v : Value} {Q : Value → Shared → Prop} (N : News h₀ L s.heap news) (hm : (D, listOf vs.toArray n) ∈ news) (hv : vs[i]? = some v) (hz : i < 1000) (h : Q v s)
    (hs : subscripted slice false (.ref D) (.int (0 + (i : Int)) u) = operate [.ref D, .int (0 + (i : Int)) u] (getItem (.ref D) (.int (0 + (i : Int)) u))) (hg : ∀ r, letTemporaryGo value (.ref D) r = pure ()) :
    wpAny (model prog w) A (subscriptTail value slice (.ref D) (.int (0 + (i : Int)) u)) Q E s :=
  item_list (News.isList N hm) at_nn (at_lt hz) (by rw [at_nat]; simpa using hv) h hs hg
theorem pick_from {l : List Value} {x : Int} {k : Nat} (h1 : ¬ x < 0) (h2 : x.toNat = k) : kms_pick l (some x) none = l.drop k := by
  have e : kms_lo (some x) l.length = min k l.length := by rw [← h2]; exact if_neg h1
  show (l.drop (kms_lo (some x) l.length)).take (l.length - kms_lo (some x) l.length) = _
  rw [e, kmk_drop_min]
  exact List.take_of_length_le (by rw [List.length_drop]; exact Nat.sub_le_sub_left (Nat.min_le_left k _) _)
theorem my_pick (vs : List Value) (i : Nat) : kms_pick vs.toArray.toList (some (0 + (i : Int) + 1)) none = vs.drop (i + 1) :=
  pick_from (by rw [Int.zero_add]; exact Int.not_lt.mpr (Int.natCast_nonneg (i + 1))) (by rw [Int.zero_add]; rfl)
end
theorem upd_mem {d : Addr} {o o' : Obj} {l l' : List (Addr × Obj)} (U : Upd d o o' l l') : ∀ q ∈ l', q = (d, o') ∨ (q ∈ l ∧ q.1 ≠ d) := by
  obtain ⟨pre, post, rfl, rfl, h1, h2⟩ := U.split
  intro q hq
  rcases List.mem_append.mp hq with h | h
  · exact .inr ⟨List.mem_append.mpr (.inl h), h1 q h⟩
  · rcases List.mem_cons.mp h with h | h
    · exact .inl h
    · exact .inr ⟨List.mem_append.mpr (.inr (.tail _ h)), h2 q h⟩
noncomputable def off (d : Addr) (l : List (Addr × Obj)) : List (Addr × Obj) := l.filter fun q => decide (q.1 ≠ d)
theorem off_ne {d : Addr} {l : List (Addr × Obj)} : ∀ q ∈ off d l, q.1 ≠ d := fun q h => by simpa using (List.mem_filter.mp h).2
theorem off_ne2 {d e : Addr} {l : List (Addr × Obj)} : ∀ q ∈ off e (off d l), q.1 ≠ d := fun q h => off_ne q (List.mem_filter.mp h).1
theorem off_mem {d : Addr} {l : List (Addr × Obj)} {q : Addr × Obj} (h : q ∈ l) (hn : q.1 ≠ d) : q ∈ off d l := List.mem_filter.mpr ⟨h, by simpa using hn⟩
theorem off_sub {d : Addr} {l : List (Addr × Obj)} : ∀ q ∈ off d l, q ∈ l := fun _ h => (List.mem_filter.mp h).1
theorem news_upd1 {h₀ h : Heap} {L d : Addr} {o o' : Obj} {l l' : List (Addr × Obj)} (H : News h₀ L h ((d, o') :: off d l)) (U : Upd d o o' l l') : News h₀ L h l' := by
  intro q hq
  rcases upd_mem U q hq with rfl | ⟨h1, h2⟩
  · exact H _ (.head _)
  · exact H _ (.tail _ (off_mem h1 h2))
theorem news_upd2 {h₀ h : Heap} {L d e : Addr} {o o' x x' : Obj} {l l' l'' : List (Addr × Obj)} (H : News h₀ L h ((d, o') :: (e, x') :: off e (off d l))) (U : Upd d o o' l l') (V : Upd e x x' l' l'') : News h₀ L h l'' := by
  intro q hq
  rcases upd_mem V q hq with rfl | ⟨h1, h2⟩
  · exact H _ (.tail _ (.head _))
  · rcases upd_mem U q h1 with rfl | ⟨h3, h4⟩
    · exact H _ (.head _)
    · exact H _ (.tail _ (.tail _ (off_mem (off_mem h3 h4) h2)))
theorem news_in1 {h₀ h : Heap} {L d : Addr} {o : Obj} {l : List (Addr × Obj)} (N : News h₀ L h l) (hm : (d, o) ∈ l) : News h₀ L h ((d, o) :: off d l) := by
  intro q hq
  rcases List.mem_cons.mp hq with rfl | h
  · exact N _ hm
  · exact N _ (off_sub q h)
theorem news_in2 {h₀ h : Heap} {L d e : Addr} {o x : Obj} {l : List (Addr × Obj)} (N : News h₀ L h l) (hm : (d, o) ∈ l) (he : (e, x) ∈ l) : News h₀ L h ((d, o) :: (e, x) :: off e (off d l)) := by
  intro q hq
  rcases List.mem_cons.mp hq with rfl | h
  · exact N _ hm
  · rcases List.mem_cons.mp h with rfl | h
    · exact N _ he
    · exact N _ (off_sub q (off_sub q h))

theorem news_inM {h₀ h : Heap} {L d e : Addr} {o x : Obj} {l : List (Addr × Obj)} (N : News h₀ L h l) (hm : (d, o) ∈ l) (he : (e, x) ∈ l) : News h₀ L h ((d, o) :: (e, x) :: off d l) := by
  intro q hq
  rcases List.mem_cons.mp hq with rfl | h
  · exact N _ hm
  · rcases List.mem_cons.mp h with rfl | h
    · exact N _ he
    · exact N _ (off_sub q h)
theorem news_outM {h₀ h : Heap} {L d : Addr} {o : Obj} {y : Addr × Obj} {l : List (Addr × Obj)} (N : News h₀ L h ((d, o) :: y :: l)) : News h₀ L h ((d, o) :: l) := by
  intro q hq
  rcases List.mem_cons.mp hq with rfl | h
  · exact N _ (.head _)
  · exact N _ (.tail _ (.tail _ h))
structure Ad where
  b : Addr
  l : Addr
  ra : Addr
  rd : Addr
  ta : Addr
  td : Addr
  pa : Addr
  pd : Addr
  lo : Addr
  ou : Addr
noncomputable def Adr (a : Ad) (si : Addr) (tl : List (Addr × Obj)) : List Addr := a.b :: a.l :: a.ra :: a.rd :: a.ta :: a.td :: a.pa :: a.pd :: si :: a.lo :: a.ou :: tl.map (·.1)
noncomputable def Led (a : Ad) (si : Addr) (ob ol ord otd opd osi olo oou : Obj) (tl : List (Addr × Obj)) : List (Addr × Obj) :=
  (a.b, ob) :: (a.l, ol) :: (a.ra, instObj 164 a.rd) :: (a.rd, ord) :: (a.ta, instObj 220 a.td) :: (a.td, otd) :: (a.pa, instObj 66 a.pd) :: (a.pd, opd) :: (si, osi) :: (a.lo, olo) :: (a.ou, oou) :: tl
def Dis (a : Ad) (si : Addr) (tl : List (Addr × Obj)) : Prop := (Adr a si tl).Nodup
def Off (I : Addr) (a : Ad) (si : Addr) (tl : List (Addr × Obj)) : Prop := ∀ x ∈ Adr a si tl, x ≠ I
section
variable {a : Ad} {si I d : Addr} {ob ol ord otd opd osi olo oou o o' : Obj} {tl pre post nws : List (Addr × Obj)}
theorem adr_led : (Led a si ob ol ord otd opd osi olo oou tl).map (·.1) = Adr a si tl := rfl
theorem upd_nodup (h : ((pre ++ (d, o) :: post).map (·.1)).Nodup) : Upd d o o' (pre ++ (d, o) :: post) (pre ++ (d, o') :: post) := by
  induction pre with
  | nil =>
    refine Upd.head fun q hq e => ?_
    have h1 : ¬ d ∈ post.map (·.1) := (List.nodup_cons.mp h).1
    exact h1 (List.mem_map.mpr ⟨q, hq, e⟩)
  | cons p r ih =>
    have h1 : ¬ p.1 ∈ (r ++ (d, o) :: post).map (·.1) ∧ ((r ++ (d, o) :: post).map (·.1)).Nodup := List.nodup_cons.mp h
    exact Upd.tail (fun e => h1.1 (List.mem_map.mpr ⟨(d, o), List.mem_append.mpr (.inr (.head _)), e.symm⟩)) (ih h1.2)
theorem Dis.upd_b (D : Dis a si tl) : Upd a.b ob o' (Led a si ob ol ord otd opd osi olo oou tl) (Led a si o' ol ord otd opd osi olo oou tl) := upd_nodup (pre := []) D
theorem Dis.upd_l (D : Dis a si tl) : Upd a.l ol o' (Led a si ob ol ord otd opd osi olo oou tl) (Led a si ob o' ord otd opd osi olo oou tl) := upd_nodup (pre := [(a.b, ob)]) D
theorem Dis.upd_rd (D : Dis a si tl) : Upd a.rd ord o' (Led a si ob ol ord otd opd osi olo oou tl) (Led a si ob ol o' otd opd osi olo oou tl) := upd_nodup (pre := [(a.b, ob), (a.l, ol), (a.ra, instObj 164 a.rd)]) D
theorem Dis.upd_td (D : Dis a si tl) : Upd a.td otd o' (Led a si ob ol ord otd opd osi olo oou tl) (Led a si ob ol ord o' opd osi olo oou tl) := upd_nodup (pre := [(a.b, ob), (a.l, ol), (a.ra, instObj 164 a.rd), (a.rd, ord), (a.ta, instObj 220 a.td)]) D
theorem Dis.upd_pd (D : Dis a si tl) : Upd a.pd opd o' (Led a si ob ol ord otd opd osi olo oou tl) (Led a si ob ol ord otd o' osi olo oou tl) := upd_nodup (pre := [(a.b, ob), (a.l, ol), (a.ra, instObj 164 a.rd), (a.rd, ord), (a.ta, instObj 220 a.td), (a.td, otd), (a.pa, instObj 66 a.pd)]) D
theorem Dis.upd_si (D : Dis a si tl) : Upd si osi o' (Led a si ob ol ord otd opd osi olo oou tl) (Led a si ob ol ord otd opd o' olo oou tl) := upd_nodup (pre := [(a.b, ob), (a.l, ol), (a.ra, instObj 164 a.rd), (a.rd, ord), (a.ta, instObj 220 a.td), (a.td, otd), (a.pa, instObj 66 a.pd), (a.pd, opd)]) D
theorem Dis.upd_lo (D : Dis a si tl) : Upd a.lo olo o' (Led a si ob ol ord otd opd osi olo oou tl) (Led a si ob ol ord otd opd osi o' oou tl) := upd_nodup (pre := [(a.b, ob), (a.l, ol), (a.ra, instObj 164 a.rd), (a.rd, ord), (a.ta, instObj 220 a.td), (a.td, otd), (a.pa, instObj 66 a.pd), (a.pd, opd), (si, osi)]) D
theorem Dis.upd_ou (D : Dis a si tl) : Upd a.ou oou o' (Led a si ob ol ord otd opd osi olo oou tl) (Led a si ob ol ord otd opd osi olo o' tl) := upd_nodup (pre := [(a.b, ob), (a.l, ol), (a.ra, instObj 164 a.rd), (a.rd, ord), (a.ta, instObj 220 a.td), (a.td, otd), (a.pa, instObj 66 a.pd), (a.pd, opd), (si, osi), (a.lo, olo)]) D
theorem Led.mem_b : (a.b, ob) ∈ Led a si ob ol ord otd opd osi olo oou tl := .head _
theorem Led.mem_l : (a.l, ol) ∈ Led a si ob ol ord otd opd osi olo oou tl := .tail _ (.head _)
theorem Led.mem_ra : (a.ra, instObj 164 a.rd) ∈ Led a si ob ol ord otd opd osi olo oou tl := .tail _ (.tail _ (.head _))
theorem Led.mem_rd : (a.rd, ord) ∈ Led a si ob ol ord otd opd osi olo oou tl := .tail _ (.tail _ (.tail _ (.head _)))
theorem Led.mem_ta : (a.ta, instObj 220 a.td) ∈ Led a si ob ol ord otd opd osi olo oou tl := .tail _ (.tail _ (.tail _ (.tail _ (.head _))))
theorem Led.mem_td : (a.td, otd) ∈ Led a si ob ol ord otd opd osi olo oou tl := .tail _ (.tail _ (.tail _ (.tail _ (.tail _ (.head _)))))
theorem Led.mem_pa : (a.pa, instObj 66 a.pd) ∈ Led a si ob ol ord otd opd osi olo oou tl := .tail _ (.tail _ (.tail _ (.tail _ (.tail _ (.tail _ (.head _))))))
theorem Led.mem_pd : (a.pd, opd) ∈ Led a si ob ol ord otd opd osi olo oou tl := .tail _ (.tail _ (.tail _ (.tail _ (.tail _ (.tail _ (.tail _ (.head _)))))))
theorem Led.mem_si : (si, osi) ∈ Led a si ob ol ord otd opd osi olo oou tl := .tail _ (.tail _ (.tail _ (.tail _ (.tail _ (.tail _ (.tail _ (.tail _ (.head _))))))))
theorem Led.mem_lo : (a.lo, olo) ∈ Led a si ob ol ord otd opd osi olo oou tl := .tail _ (.tail _ (.tail _ (.tail _ (.tail _ (.tail _ (.tail _ (.tail _ (.tail _ (.head _)))))))))
theorem Led.mem_ou : (a.ou, oou) ∈ Led a si ob ol ord otd opd osi olo oou tl := .tail _ (.tail _ (.tail _ (.tail _ (.tail _ (.tail _ (.tail _ (.tail _ (.tail _ (.tail _ (.head _))))))))))
theorem Led.mem_tl {q : Addr × Obj} (h : q ∈ tl) : q ∈ Led a si ob ol ord otd opd osi olo oou tl := .tail _ (.tail _ (.tail _ (.tail _ (.tail _ (.tail _ (.tail _ (.tail _ (.tail _ (.tail _ (.tail _ h))))))))))
theorem Off.at_b (h : Off I a si tl) : NeA a.b I := h _ (.head _)
theorem Off.at_l (h : Off I a si tl) : NeA a.l I := h _ (.tail _ (.head _))
theorem Off.at_rd (h : Off I a si tl) : NeA a.rd I := h _ (.tail _ (.tail _ (.tail _ (.head _))))
theorem Off.at_td (h : Off I a si tl) : NeA a.td I := h _ (.tail _ (.tail _ (.tail _ (.tail _ (.tail _ (.head _))))))
theorem Off.at_pd (h : Off I a si tl) : NeA a.pd I := h _ (.tail _ (.tail _ (.tail _ (.tail _ (.tail _ (.tail _ (.tail _ (.head _))))))))
theorem Off.at_si (h : Off I a si tl) : NeA si I := h _ (.tail _ (.tail _ (.tail _ (.tail _ (.tail _ (.tail _ (.tail _ (.tail _ (.head _)))))))))
theorem Off.at_lo (h : Off I a si tl) : NeA a.lo I := h _ (.tail _ (.tail _ (.tail _ (.tail _ (.tail _ (.tail _ (.tail _ (.tail _ (.tail _ (.head _))))))))))
theorem Off.at_ou (h : Off I a si tl) : NeA a.ou I := h _ (.tail _ (.tail _ (.tail _ (.tail _ (.tail _ (.tail _ (.tail _ (.tail _ (.tail _ (.tail _ (.head _)))))))))))
theorem Off.of (h : ∀ p ∈ Led a si ob ol ord otd opd osi olo oou tl, p.1 ≠ I) : Off I a si tl := by
  intro x hx
  rw [← adr_led (ob := ob) (ol := ol) (ord := ord) (otd := otd) (opd := opd) (osi := osi) (olo := olo) (oou := oou)] at hx
  obtain ⟨p, hp, rfl⟩ := List.mem_map.mp hx
  exact h p hp
theorem Off.all (h : Off I a si tl) : ∀ p ∈ Led a si ob ol ord otd opd osi olo oou tl, p.1 ≠ I := by
  intro p hp
  refine h p.1 ?_
  rw [← adr_led (ob := ob) (ol := ol) (ord := ord) (otd := otd) (opd := opd) (osi := osi) (olo := olo) (oou := oou)]
  exact List.mem_map_of_mem hp
/-- a new address is none of the ledger's -/
theorem off_new (h : ∀ p ∈ nws, @LT.lt Nat _ p.1 I) (hs : ∀ q ∈ Led a si ob ol ord otd opd osi olo oou tl, q ∈ nws) : Off I a si tl := Off.of fun p hp => Nat.ne_of_lt (h p (hs p hp))
theorem Off.cons (h : Off I a si tl) (hd : NeA d I) : Off I a si ((d, o) :: tl) := by
  intro x hx
  have e : ∀ l, Adr a si l = [a.b, a.l, a.ra, a.rd, a.ta, a.td, a.pa, a.pd, si, a.lo, a.ou] ++ l.map (·.1) := fun _ => rfl
  unfold Off at h
  rw [e] at hx h
  rcases List.mem_append.mp hx with hm | hm
  · exact h x (List.mem_append.mpr (.inl hm))
  · rcases List.mem_cons.mp hm with rfl | hm
    · exact hd
    · exact h x (List.mem_append.mpr (.inr hm))
theorem Dis.cons (D : Dis a si tl) (h : Off d a si tl) : Dis a si ((d, o) :: tl) := by
  have e : Adr a si ((d, o) :: tl) = [a.b, a.l, a.ra, a.rd, a.ta, a.td, a.pa, a.pd, si, a.lo, a.ou] ++ d :: tl.map (·.1) := rfl
  have p : ([a.b, a.l, a.ra, a.rd, a.ta, a.td, a.pa, a.pd, si, a.lo, a.ou] ++ d :: tl.map (·.1)).Perm (d :: Adr a si tl) := List.perm_middle
  unfold Dis
  rw [e]
  exact p.nodup_iff.mpr (List.nodup_cons.mpr ⟨fun hm => h d hm rfl, D⟩)
theorem Dis.turn {si' : Addr} (D : Dis a si tl) (h : Off si' a si tl) : Dis a si' tl := by
  have e : ∀ x, Adr a x tl = [a.b, a.l, a.ra, a.rd, a.ta, a.td, a.pa, a.pd] ++ x :: (a.lo :: a.ou :: tl.map (·.1)) := fun _ => rfl
  have D' := D
  unfold Dis at D' ⊢
  unfold Off at h
  rw [e] at D' h ⊢
  have D2 := (List.perm_middle.nodup_iff.mp D')
  refine List.perm_middle.nodup_iff.mpr (List.nodup_cons.mpr ⟨fun hm => h si' ?_ rfl, (List.nodup_cons.mp D2).2⟩)
  rcases List.mem_append.mp hm with hm | hm
  · exact List.mem_append.mpr (.inl hm)
  · exact List.mem_append.mpr (.inr (.tail _ hm))
theorem Off.turn {si' : Addr} (h : Off I a si tl) (hn : NeA si' I) : Off I a si' tl := by
  intro x hx
  have e : ∀ x, Adr a x tl = [a.b, a.l, a.ra, a.rd, a.ta, a.td, a.pa, a.pd] ++ x :: (a.lo :: a.ou :: tl.map (·.1)) := fun _ => rfl
  unfold Off at h
  rw [e] at hx h
  rcases List.mem_append.mp hx with hm | hm
  · exact h x (List.mem_append.mpr (.inl hm))
  · rcases List.mem_cons.mp hm with rfl | hm
    · exact hn
    · exact h x (List.mem_append.mpr (.inr (.tail _ hm)))
end
noncomputable abbrev boxO (l : Addr) (k c : Int) (tk tc : Tok) (n : Nat) : Obj := listOf [.ref l, .int k tk, .int c tc].toArray n
abbrev IsInts (vs : List Value) : Prop := ∃ ns, IntsAre vs ns
theorem my_popI {prog : Program} {w : World} {A : Around} {E : Value → Shared → Prop} {s : Shared} {h₀ : Heap} {L D : Addr} {m : Str → Option Value} {news : List (Addr × Obj)} {nf : Obj → List (Addr × Obj)} {n : Nat} {vs : List Value} {u : Tok} {Q : Value → Shared → Prop} (F : Fr h₀ L s.heap m) (N : News h₀ L s.heap news)
    (U : ∀ o', Upd D (listOf vs.toArray n) o' news (nf o')) (hi : IsInts vs) (h0 : 0 < vs.length) (hz : vs.length ≤ 50)
    (h : ∀ x t vs' h', IsInts vs' → vs'.length ≤ 50 → Fr h₀ L h' m → News h₀ L h' (nf (listOf vs'.toArray (n + 1))) → Q (.int x t) { s with heap := h' }) : wpAny (model prog w) A (call (.builtin "list.pop") [.ref D, .int 0 u]) Q E s := by
  obtain ⟨ns, hi⟩ := hi
  cases hi with
  | nil => exact absurd h0 (Nat.lt_irrefl _)
  | cons x tx hi' =>
    rw [List.length_cons] at hz
    exact my_pop0 F N (U _) (by omega) fun h' F' N' => h x tx _ h' ⟨_, hi'⟩ (by omega) F' N'
theorem getL_free {name : Str} : ∀ {es : List DictEntry} {ks : List (Str × Tok)}, es.map (·.key) = ks.map (fun p => Value.str p.1 p.2) → (ks.all fun p => !(p.1 == name)) = true → getL name es = some none := by
  intro es ks h hf
  have h1 : ∀ e ∈ es, e.key.isStr name = false ∧ e.refKey = false := by
    intro e he
    have h2 : e.key ∈ ks.map (fun p => Value.str p.1 p.2) := h ▸ List.mem_map_of_mem he
    obtain ⟨p, hp, e1⟩ := List.mem_map.mp h2
    have h3 := List.all_eq_true.mp hf p hp
    unfold DictEntry.refKey
    rw [← e1]
    refine ⟨?_, rfl⟩
    show (p.1 == name) = false
    simpa using h3
  unfold getL
  rw [List.find?_eq_none.mpr (fun e he => by rw [(h1 e he).1]; decide)]
  show (if es.any (·.refKey) then none else some none) = some none
  rw [if_neg]
  intro ha
  obtain ⟨e, he, e2⟩ := List.any_eq_true.mp ha
  rw [(h1 e he).2] at e2
  exact absurd e2 (by decide)
theorem lt_two {d x : Addr} {o : Obj} {l : List (Addr × Obj)} (h : ∀ p ∈ l, @LT.lt Nat _ p.1 d) (h2 : @LT.lt Nat _ d x) : ∀ p ∈ (d, o) :: l, @LT.lt Nat _ p.1 x :=
  List.forall_mem_cons.mpr ⟨h2, fun q hq => Nat.lt_trans (h q hq) h2⟩
def BoxO (l : Addr) (k : Int) (o : Obj) : Prop := ∃ c tk tc n, o = boxO l k c tk tc n
def IntsO (o : Obj) : Prop := ∃ vs n, IsInts vs ∧ vs.length ≤ 50 ∧ o = listOf vs.toArray n
noncomputable abbrev pInst (pd : Addr) : Obj := instObj 66 pd
noncomputable abbrev pDict (w : World) (k1 k2 k3 k4 : Tok) (B l r t : Int) (t1 t2 t3 t4 : Tok) : Obj :=
  dictOf [⟨PyData.keyHash w.params (Str.ofString "burst"), .str (Str.ofString "burst") k1, .int B t1⟩, ⟨PyData.keyHash w.params (Str.ofString "left"), .str (Str.ofString "left") k2, .int l t2⟩, ⟨PyData.keyHash w.params (Str.ofString "rest"), .str (Str.ofString "rest") k3, .int r t3⟩, ⟨PyData.keyHash w.params (Str.ofString "seen_at"), .str (Str.ofString "seen_at") k4, .int t t4⟩] 4
inductive PacO (w : World) (Bu le re now : Int) : Obj → Prop
  | mk (k1 k2 k3 k4 t1 t2 t3 t4 : Tok) : PacO w Bu le re now (pDict w k1 k2 k3 k4 Bu le re now t1 t2 t3 t4)
section
variable {prog : Program} {w : World} {A : Around} {E : Value → Shared → Prop} {s : Shared} {K : Frag} {h₀ : Heap} {L pa pd : Addr} {m : Str → Option Value} {news : List (Addr × Obj)} {name : Str} {f : Addr} {pl : Sem Bool} {Q : Value × List Value → Shared → Prop}
theorem meth_at {C : Addr} {es : List DictEntry} {n : Nat} {ks : List (Str × Tok)} (F : Fr h₀ L s.heap m) (X : K.In h₀) (N : News h₀ L s.heap news) (mp : (pa, instObj C pd) ∈ news) (md : (pd, dictOf es n) ∈ news) (hk : es.map (·.key) = ks.map (fun p => Value.str p.1 p.2)) (hf : (ks.all fun p => !(p.1 == name)) = true)
    (hg : plainGet K C name = true) (hi : findIn K (.ref C) name = some (some (.ref f))) (ht : isFn K (.ref f) = true) (h : Q (.ref f, [.ref pa]) s) : wpAny (model prog w) A (getMethod (.ref pa) name pl) Q E s :=
  method_inst F X (InstAt.of_news N mp md) hg hi ht (getL_free hk hf) h
theorem methPac {Bu le re t0 : Int} {opd : Obj} (F : Fr h₀ L s.heap m) (X : K.In h₀) (N : News h₀ L s.heap news) (mp : (pa, pInst pd) ∈ news) (md : (pd, opd) ∈ news) (p : PacO w Bu le re t0 opd)
    (hf : ([Str.ofString "burst", Str.ofString "left", Str.ofString "rest", Str.ofString "seen_at"].all fun y => !(y == name)) = true)
    (hg : plainGet K 66 name = true) (hi : findIn K (.ref 66) name = some (some (.ref f))) (ht : isFn K (.ref f) = true) (h : Q (.ref f, [.ref pa]) s) : wpAny (model prog w) A (getMethod (.ref pa) name pl) Q E s := by
  obtain ⟨k1, k2, k3, k4, t1, t2, t3, t4⟩ := p
  exact meth_at (ks := [(_, k1), (_, k2), (_, k3), (_, k4)]) F X N mp md rfl hf hg hi ht h
end
def EarnP (Bu le re win way gap le' re' : Int) : Prop :=
  (Bu ≤ le + (re + 5 * win * gap).fdiv (4 * way) ∧ le' = Bu ∧ re' = 0) ∨ (le + (re + 5 * win * gap).fdiv (4 * way) < Bu ∧ le' = le + (re + 5 * win * gap).fdiv (4 * way) ∧ re' = (re + 5 * win * gap).fmod (4 * way))
local macro_rules | `(tactic| k_lt $_) => `(tactic| skip)
local macro_rules | `(tactic| k_room) => `(tactic| ktr_room)
local macro_rules | `(tactic| k_mem) => `(tactic| first | k_extra "kmem" | fail)
local macro_rules | `(tactic| k_ne) => `(tactic| first | k_extra "kne" | fail)
local macro_rules | `(tactic| k_upd) => `(tactic| first | k_extra "kupd" | fail)
local macro_rules | `(tactic| k_all) => `(tactic| first | k_extra "kall" | fail)
local macro_rules | `(tactic| ktr_room) => `(tactic| first | k_extra "kroom" | fail)
local macro_rules | `(tactic| ktr_units) => `(tactic| first | k_extra "kunits" | fail)
theorem rows_said_B1 : True := by
  k_with_none
  k_with "kmem" => first | (refine mem_fold ?_; with_reducible first | assumption | exact Led.mem_b | exact Led.mem_l | exact Led.mem_ra | exact Led.mem_rd | exact Led.mem_ta | exact Led.mem_td | exact Led.mem_pa | exact Led.mem_pd | exact Led.mem_si | exact Led.mem_lo | exact Led.mem_ou | exact Led.mem_tl (by assumption))
  k_with "kne1" => first | (with_reducible assumption) | (refine' ne_new ?h ?m; (case h => with_reducible assumption); (case m => k_mem)) | (refine nea_lt ?_; with_reducible assumption) | (refine' ne_new2 ?h ?m; (case h => with_reducible assumption); (case m => k_mem)) | with_reducible first | exact Off.at_b (by assumption) | exact Off.at_l (by assumption) | exact Off.at_rd (by assumption) | exact Off.at_td (by assumption) | exact Off.at_pd (by assumption) | exact Off.at_si (by assumption) | exact Off.at_lo (by assumption) | exact Off.at_ou (by assumption)
  k_with "kne" => refine neA ?_; (try dsimp only); first | k_extra "kne1" | (refine NeA.symm ?_; k_extra "kne1")
  k_with "kupd" => first | (with_reducible first | exact Dis.upd_b (by assumption) | exact Dis.upd_l (by assumption) | exact Dis.upd_rd (by assumption) | exact Dis.upd_td (by assumption) | exact Dis.upd_pd (by assumption) | exact Dis.upd_si (by assumption) | exact Dis.upd_lo (by assumption) | exact Dis.upd_ou (by assumption))
  k_with "kall" => first | (with_reducible assumption) | (refine' all_new ?h; (case h => with_reducible assumption)) | (refine' all_new2 ?h ?m; (case h => with_reducible assumption); (case m => (intro q hq; (repeat (first | exact hq | refine List.mem_cons_of_mem _ ?_)))))
  k_with "kroom" => (try simp only [depth_under_make, depth_under_kw, depth_in1, depth_deeper, depth_caller]); (try dsimp only [ktrTop]); first | (with_reducible assumption) | (refine' room_of ?a ?b; (case a => with_reducible assumption); (case b => decide)) | omega
  k_with "kunits" => (try simp only [units_in1, units_deeper, Around.mark_units, units_caller]); (try dsimp only [ktrTop]); first | (with_reducible assumption) | (refine' room_of ?a ?b; (case a => with_reducible assumption); (case b => decide)) | omega
  trivial

theorem take_r {w : World} {p : Program} {loose : List Str} {mean : ExcName → Option Value} {mg mb : Str → Option Value}
    {dp un : Nat} {gd : Option (List Code)} {cn : Str} {cs : Scope} {a : Addr} {ccd : Value} {cl : List (Str × Addr)} {outer : List Env} {A₀ : Around} {base h₀ : Heap} {L : Addr} {m : Str → Option Value} {s : Shared} {Q E : Value → Shared → Prop}
    (B : Below A₀ base outer h₀) (F : Fr h₀ L s.heap m) (X : (hd.heap_39 w.params).In h₀) (T : Top p loose mean mg mb h₀) (hk : cs.kind = .function) (hdp : dp + 2 < recursionLimit) (hun : un + 16 < cLine)
    {b l : Addr} {k c wide : Int} {tk tc tw : Tok} {n nl : Nat} {vs : List Value} {rest : List (Addr × Obj)}
    (N : News h₀ L s.heap ((b, boxO l k c tk tc n) :: (l, listOf vs.toArray nl) :: rest)) (hbl : NeA l b) (hb : ∀ q ∈ rest, q.1 ≠ b) (hl : ∀ q ∈ rest, q.1 ≠ l)
    (hi : IsInts vs) (hn : vs.length ≤ 50) (hk0 : 0 ≤ k) (hk1 : k ≤ 100) (hw0 : 0 < wide)
    (ret : ∀ (r : Int) (t : Tok) (ob' ol' : Obj) (h' : Heap) (tks : Nat), 0 ≤ r → r < wide → BoxO l (k + 1) ob' → IntsO ol' → Fr h₀ L h' m →
      News h₀ L h' ((b, ob') :: (l, ol') :: rest) → Q (.int r t) { s with heap := h', toks := tks }) :
    wpAny (model PP w) (ktrTop dp un gd cn cs L a ccd cl outer) (call (.ref 231) [.ref b, .int wide tw]) Q E s := by
  w_on
  refine wpAny_call ?_
  k_dflt cell_enter
  repeat' (first | ((with_reducible show wpAny _ _ (call (Value.builtin "len") [Value.ref _]) _ _ _); k_dflt (refine' my_len ?N ?m ?z ?_; (case N => k_asm); (case m => k_mem); (case z => omega); k_whole)) | ((with_reducible show wpAny _ _ (call (Value.builtin "list.pop") _) _ _ _); k_dflt (refine' my_popI ?F ?N ?U ?hi ?h0 ?hz ?_; (case F => k_asm); (case N => k_asm); (case U => intro o'; k_upd); (case hi => assumption); (case h0 => omega); (case hz => assumption); k_whole); intro r9 t9 vs' h' hi' hn' F' N') | (k_unfold; (try dsimp only)) | (k_end; wrow_close) | (walk1 <;> try dsimp only) | (dsimp only; walk1 <;> try dsimp only) | (leave1; walk_say "STEP leave1"; try dsimp only) | fail "no step")
  all_goals (exact ret _ _ _ _ _ _ (Int.fmod_nonneg_of_pos _ hw0) (Int.fmod_lt_of_pos _ hw0) ⟨_, _, _, _, rfl⟩ ⟨_, _, by assumption, by assumption, rfl⟩ (by k_asm) (by k_asm))
theorem take_s {w : World} {p : Program} {loose : List Str} {mean : ExcName → Option Value} {mg mb : Str → Option Value}
    {dp un : Nat} {gd : Option (List Code)} {cn : Str} {cs : Scope} {a : Addr} {ccd : Value} {cl : List (Str × Addr)} {outer : List Env} {A₀ : Around} {base h₀ : Heap} {L : Addr} {m : Str → Option Value} {s : Shared} {Q E : Value → Shared → Prop}
    (B : Below A₀ base outer h₀) (F : Fr h₀ L s.heap m) (X : (hd.heap_39 w.params).In h₀) (T : Top p loose mean mg mb h₀) (hk : cs.kind = .function) (hdp : dp + 2 < recursionLimit) (hun : un + 16 < cLine)
    {b l : Addr} {k wide : Int} {tw : Tok} {ob ol : Obj} {news : List (Addr × Obj)}
    (N : News h₀ L s.heap news) (mb' : (b, ob) ∈ news) (ml : (l, ol) ∈ news) (hbl : NeA l b) (pb : BoxO l k ob) (pl : IntsO ol) (hk0 : 0 ≤ k) (hk1 : k ≤ 100) (hw0 : 0 < wide)
    (ret : ∀ (r : Int) (t : Tok) (ob' ol' : Obj) (h' : Heap) (tks : Nat), 0 ≤ r → r < wide → BoxO l (k + 1) ob' → IntsO ol' → Fr h₀ L h' m →
      (∀ news1 news2, Upd b ob ob' news news1 → Upd l ol ol' news1 news2 → News h₀ L h' news2) → Q (.int r t) { s with heap := h', toks := tks }) :
    wpAny (model PP w) (ktrTop dp un gd cn cs L a ccd cl outer) (call (.ref 231) [.ref b, .int wide tw]) Q E s := by
  obtain ⟨c, tk, tc, n, rfl⟩ := pb
  obtain ⟨vs, nl, hi, hn, rfl⟩ := pl
  exact take_r B F X T hk hdp hun (news_in2 N mb' ml) hbl off_ne2 off_ne hi hn hk0 hk1 hw0
    fun r t ob' ol' h' tks h1 h2 h3 h4 F' N' => ret r t ob' ol' h' tks h1 h2 h3 h4 F' fun _ _ U V => news_upd2 N' U V
theorem earn_r {w : World} {p : Program} {loose : List Str} {mean : ExcName → Option Value} {mg mb : Str → Option Value}
    {dp un : Nat} {gd : Option (List Code)} {cn : Str} {cs : Scope} {a : Addr} {ccd : Value} {cl : List (Str × Addr)} {outer : List Env} {A₀ : Around} {base h₀ : Heap} {L : Addr} {m : Str → Option Value} {s : Shared} {Q E : Value → Shared → Prop}
    (B : Below A₀ base outer h₀) (F : Fr h₀ L s.heap m) (X : (hd.heap_39 w.params).In h₀) (T : Top p loose mean mg mb h₀) (hk : cs.kind = .function) (hdp : dp + 2 < recursionLimit) (hun : un + 16 < cLine)
    {pa pd : Addr} {k1 k2 k3 k4 : Tok} {Bu le re t0 : Int} {t1 t2 t3 t4 : Tok} {rest : List (Addr × Obj)}
    (N : News h₀ L s.heap ((pd, pDict w k1 k2 k3 k4 Bu le re t0 t1 t2 t3 t4) :: (pa, pInst pd) :: rest)) (hpa : NeA pd pa) (hap : ∀ q ∈ rest, q.1 ≠ pd)
    {win way now : Int} {u1 u2 u3 : Tok} (hw0 : 0 ≤ win) (hw1 : win ≤ 100000) (hy0 : 1 ≤ way) (hy1 : way ≤ 100000)
    (ret : ∀ (le' re' : Int) (opd' : Obj) (h' : Heap) (tks : Nat), EarnP Bu le re win way (now - t0) le' re' → PacO w Bu le' re' now opd' → Fr h₀ L h' m →
      News h₀ L h' ((pd, opd') :: (pa, pInst pd) :: rest) → Q .none { s with heap := h', toks := tks }) :
    wpAny (model PP w) (ktrTop dp un gd cn cs L a ccd cl outer) (call (.ref 42) [.ref pa, .int win u1, .int way u2, .int now u3]) Q E s := by
  w_on
  refine wpAny_call ?_
  k_dflt cell_enter
  repeat' (first | (k_unfold; (try dsimp only)) | (k_end; wrow_close) | ((with_reducible show wpAny _ _ (execs _ _) _ _ _); dsimp only) | ((with_reducible show wpAny _ _ (storeName _ _ _) _ _ _); dsimp only) | ((with_reducible show wpAny _ _ (setAttr _ _ _) _ _ _); dsimp only) | walk1 | (dsimp only; walk1) | (leave1; walk_say "STEP leave1"; try dsimp only) | fail "no step")
  all_goals (simp only [if_neg (show ¬ (1 : Int) > way by omega)] at *)
  all_goals (refine ret _ _ _ _ _ ?_ (.mk _ _ _ _ _ _ _ _) (by k_asm) (by k_asm))
  · exact Or.inl ⟨by assumption, rfl, rfl⟩
  · exact Or.inr ⟨by omega, rfl, rfl⟩
theorem earn_s {w : World} {p : Program} {loose : List Str} {mean : ExcName → Option Value} {mg mb : Str → Option Value}
    {dp un : Nat} {gd : Option (List Code)} {cn : Str} {cs : Scope} {a : Addr} {ccd : Value} {cl : List (Str × Addr)} {outer : List Env} {A₀ : Around} {base h₀ : Heap} {L : Addr} {m : Str → Option Value} {s : Shared} {Q E : Value → Shared → Prop}
    (B : Below A₀ base outer h₀) (F : Fr h₀ L s.heap m) (X : (hd.heap_39 w.params).In h₀) (T : Top p loose mean mg mb h₀) (hk : cs.kind = .function) (hdp : dp + 2 < recursionLimit) (hun : un + 16 < cLine)
    {pa pd : Addr} {Bu le re t0 : Int} {opd : Obj} {news : List (Addr × Obj)}
    (N : News h₀ L s.heap news) (mp : (pa, pInst pd) ∈ news) (md : (pd, opd) ∈ news) (p : PacO w Bu le re t0 opd) (hpa : NeA pd pa)
    {win way now : Int} {u1 u2 u3 : Tok} (hw0 : 0 ≤ win) (hw1 : win ≤ 100000) (hy0 : 1 ≤ way) (hy1 : way ≤ 100000)
    (ret : ∀ (le' re' : Int) (opd' : Obj) (h' : Heap) (tks : Nat), EarnP Bu le re win way (now - t0) le' re' → PacO w Bu le' re' now opd' → Fr h₀ L h' m →
      (∀ news1, Upd pd opd opd' news news1 → News h₀ L h' news1) → Q .none { s with heap := h', toks := tks }) :
    wpAny (model PP w) (ktrTop dp un gd cn cs L a ccd cl outer) (call (.ref 42) [.ref pa, .int win u1, .int way u2, .int now u3]) Q E s := by
  obtain ⟨k1, k2, k3, k4, t1, t2, t3, t4⟩ := p
  exact earn_r B F X T hk hdp hun (news_inM N md mp) hpa off_ne hw0 hw1 hy0 hy1
    fun le' re' opd' h' tks h1 h2 F' N' => ret le' re' opd' h' tks h1 h2 F' fun _ U => news_upd1 (news_outM N') U
theorem pacer_new {w : World} {p : Program} {loose : List Str} {mean : ExcName → Option Value} {mg mb : Str → Option Value}
    {dp un : Nat} {gd : Option (List Code)} {cn : Str} {cs : Scope} {a : Addr} {ccd : Value} {cl : List (Str × Addr)} {outer : List Env} {A₀ : Around} {base h₀ : Heap} {L : Addr} {m : Str → Option Value} {s : Shared} {Q E : Value → Shared → Prop}
    (B : Below A₀ base outer h₀) (F : Fr h₀ L s.heap m) (X : (hd.heap_39 w.params).In h₀) (T : Top p loose mean mg mb h₀) (hk : cs.kind = .function) (hdp : dp + 4 < recursionLimit) (hun : un + 100 < cLine)
    {burst now : Int} {u1 u2 : Tok} {news : List (Addr × Obj)} (N : News h₀ L s.heap news)
    (ret : ∀ (pd pa : Addr) (opd : Obj) (h' : Heap) (tks : Nat), PacO w burst burst 0 now opd → Fr h₀ L h' m → News h₀ L h' ((pa, pInst pd) :: (pd, opd) :: news) → (∀ p ∈ news, @LT.lt Nat _ p.1 pd) → (∀ p ∈ (pd, opd) :: news, @LT.lt Nat _ p.1 pa) → Q (.ref pa) { s with heap := h', toks := tks }) :
    wpAny (model PP w) (ktrTop dp un gd cn cs L a ccd cl outer) (call (.ref 66) [.int burst u1, .int now u2]) Q E s := by
  w_on
  k_dflt (refine' call_cls ?k1 ?k2 ?k3 ?k4 ?k5 ?k6 ?_; (case k1 => k_asm); (case k2 => k_asm); (case k3 => k_asm); (case k4 => k_is); (case k5 => k_is); (case k6 => k_is); k_whole)
  intro x' d' h' F' N' l1 l2
  try k_sweep
  k_dflt cell_enter
  repeat' (first | (k_unfold; (try dsimp only)) | (k_end; wrow_close) | (walk1 <;> try dsimp only) | (dsimp only; walk1 <;> try dsimp only) | (leave1; walk_say "STEP leave1"; try dsimp only) | fail "no step")
  exact ret _ _ _ _ _ (.mk _ _ _ _ _ _ _ _) (by k_asm) (by k_asm) (by assumption) (lt_two (by assumption) (by assumption))
theorem mayP {w : World} {p : Program} {loose : List Str} {mean : ExcName → Option Value} {mg mb : Str → Option Value}
    {dp un : Nat} {gd : Option (List Code)} {cn : Str} {cs : Scope} {a : Addr} {ccd : Value} {cl : List (Str × Addr)} {outer : List Env} {A₀ : Around} {base h₀ : Heap} {L : Addr} {m : Str → Option Value} {s : Shared} {Q E : Value → Shared → Prop}
    (B : Below A₀ base outer h₀) (F : Fr h₀ L s.heap m) (X : (hd.heap_39 w.params).In h₀) (T : Top p loose mean mg mb h₀) (hk : cs.kind = .function) (hdp : dp + 2 < recursionLimit) (hun : un + 16 < cLine)
    {pa pd : Addr} {Bu le re t0 : Int} {opd : Obj} {news : List (Addr × Obj)}
    (N : News h₀ L s.heap news) (mp : (pa, pInst pd) ∈ news) (md : (pd, opd) ∈ news) (p : PacO w Bu le re t0 opd) {size : Int} {u1 : Tok}
    (ret : ∀ (h' : Heap) (tks : Nat), Fr h₀ L h' m → News h₀ L h' news → Q (.bool (decide (size ≤ le))) { s with heap := h', toks := tks }) :
    wpAny (model PP w) (ktrTop dp un gd cn cs L a ccd cl outer) (call (.ref 49) [.ref pa, .int size u1]) Q E s := by
  w_on
  obtain ⟨k1, k2, k3, k4, t1, t2, t3, t4⟩ := p
  refine wpAny_call ?_
  k_dflt cell_enter
  repeat' (first | (k_unfold; (try dsimp only)) | (k_end; wrow_close) | (walk1 <;> try dsimp only) | (dsimp only; walk1 <;> try dsimp only) | (leave1; walk_say "STEP leave1"; try dsimp only) | fail "no step")
  exact ret _ _ (by k_asm) (by k_asm)
theorem sentP_r {w : World} {p : Program} {loose : List Str} {mean : ExcName → Option Value} {mg mb : Str → Option Value}
    {dp un : Nat} {gd : Option (List Code)} {cn : Str} {cs : Scope} {a : Addr} {ccd : Value} {cl : List (Str × Addr)} {outer : List Env} {A₀ : Around} {base h₀ : Heap} {L : Addr} {m : Str → Option Value} {s : Shared} {Q E : Value → Shared → Prop}
    (B : Below A₀ base outer h₀) (F : Fr h₀ L s.heap m) (X : (hd.heap_39 w.params).In h₀) (T : Top p loose mean mg mb h₀) (hk : cs.kind = .function) (hdp : dp + 2 < recursionLimit) (hun : un + 16 < cLine)
    {pa pd : Addr} {k1 k2 k3 k4 : Tok} {Bu le re t0 : Int} {t1 t2 t3 t4 : Tok} {rest : List (Addr × Obj)}
    (N : News h₀ L s.heap ((pd, pDict w k1 k2 k3 k4 Bu le re t0 t1 t2 t3 t4) :: (pa, pInst pd) :: rest)) (hpa : NeA pd pa) (hap : ∀ q ∈ rest, q.1 ≠ pd) {size : Int} {u1 : Tok}
    (ret : ∀ (opd' : Obj) (h' : Heap) (tks : Nat), PacO w Bu (le - size) re t0 opd' → Fr h₀ L h' m → News h₀ L h' ((pd, opd') :: (pa, pInst pd) :: rest) → Q .none { s with heap := h', toks := tks }) :
    wpAny (model PP w) (ktrTop dp un gd cn cs L a ccd cl outer) (call (.ref 56) [.ref pa, .int size u1]) Q E s := by
  w_on
  refine wpAny_call ?_
  k_dflt cell_enter
  repeat' (first | (k_unfold; (try dsimp only)) | (k_end; wrow_close) | (walk1 <;> try dsimp only) | (dsimp only; walk1 <;> try dsimp only) | (leave1; walk_say "STEP leave1"; try dsimp only) | fail "no step")
  exact ret _ _ _ (.mk _ _ _ _ _ _ _ _) (by k_asm) (by k_asm)
theorem sentP {w : World} {p : Program} {loose : List Str} {mean : ExcName → Option Value} {mg mb : Str → Option Value}
    {dp un : Nat} {gd : Option (List Code)} {cn : Str} {cs : Scope} {a : Addr} {ccd : Value} {cl : List (Str × Addr)} {outer : List Env} {A₀ : Around} {base h₀ : Heap} {L : Addr} {m : Str → Option Value} {s : Shared} {Q E : Value → Shared → Prop}
    (B : Below A₀ base outer h₀) (F : Fr h₀ L s.heap m) (X : (hd.heap_39 w.params).In h₀) (T : Top p loose mean mg mb h₀) (hk : cs.kind = .function) (hdp : dp + 2 < recursionLimit) (hun : un + 16 < cLine)
    {pa pd : Addr} {Bu le re t0 : Int} {opd : Obj} {news : List (Addr × Obj)}
    (N : News h₀ L s.heap news) (mp : (pa, pInst pd) ∈ news) (md : (pd, opd) ∈ news) (p : PacO w Bu le re t0 opd) (hpa : NeA pd pa) {size : Int} {u1 : Tok}
    (ret : ∀ (opd' : Obj) (h' : Heap) (tks : Nat), PacO w Bu (le - size) re t0 opd' → Fr h₀ L h' m → (∀ news1, Upd pd opd opd' news news1 → News h₀ L h' news1) → Q .none { s with heap := h', toks := tks }) :
    wpAny (model PP w) (ktrTop dp un gd cn cs L a ccd cl outer) (call (.ref 56) [.ref pa, .int size u1]) Q E s := by
  obtain ⟨k1, k2, k3, k4, t1, t2, t3, t4⟩ := p
  exact sentP_r B F X T hk hdp hun (news_inM N md mp) hpa off_ne fun opd' h' tks h1 F' N' => ret opd' h' tks h1 F' fun _ U => news_upd1 (news_outM N') U
/-- what the wait is: none, or the least that pays what is lacking -/
def WaitP (le re size win way W : Int) : Prop := (size ≤ le ∧ W = 0) ∨ (le < size ∧ W = ((size - le) * (4 * way) - re + 5 * win - 1).fdiv (5 * win))
theorem wait_s {w : World} {p : Program} {loose : List Str} {mean : ExcName → Option Value} {mg mb : Str → Option Value}
    {dp un : Nat} {gd : Option (List Code)} {cn : Str} {cs : Scope} {a : Addr} {ccd : Value} {cl : List (Str × Addr)} {outer : List Env} {A₀ : Around} {base h₀ : Heap} {L : Addr} {m : Str → Option Value} {s : Shared} {Q E : Value → Shared → Prop}
    (B : Below A₀ base outer h₀) (F : Fr h₀ L s.heap m) (X : (hd.heap_39 w.params).In h₀) (T : Top p loose mean mg mb h₀) (hk : cs.kind = .function) (hdp : dp + 2 < recursionLimit) (hun : un + 16 < cLine)
    {pa pd : Addr} {Bu le re t0 : Int} {opd : Obj} {news : List (Addr × Obj)}
    (N : News h₀ L s.heap news) (mp : (pa, pInst pd) ∈ news) (md : (pd, opd) ∈ news) (p : PacO w Bu le re t0 opd)
    {size win way : Int} {u1 u2 u3 : Tok} (hw0 : 1 ≤ win) (hw1 : win ≤ 100000) (hy0 : 1 ≤ way) (hy1 : way ≤ 100000)
    (ret : ∀ (W : Int) (t : Tok) (h' : Heap) (tks : Nat), WaitP le re size win way W → Fr h₀ L h' m → News h₀ L h' news → Q (.int W t) { s with heap := h', toks := tks }) :
    wpAny (model PP w) (ktrTop dp un gd cn cs L a ccd cl outer) (call (.ref 63) [.ref pa, .int size u1, .int win u2, .int way u3]) Q E s := by
  w_on
  obtain ⟨k1, k2, k3, k4, t1, t2, t3, t4⟩ := p
  refine wpAny_call ?_
  k_dflt cell_enter
  repeat' (first | (k_unfold; (try dsimp only)) | (k_end; wrow_close) | (walk1 <;> try dsimp only) | (dsimp only; walk1 <;> try dsimp only) | (leave1; walk_say "STEP leave1"; try dsimp only) | fail "no step")
  · exact ret _ _ _ _ (Or.inl ⟨by assumption, rfl⟩) (by k_asm) (by k_asm)
  · simp only [if_neg (show ¬ (1 : Int) > way by omega), if_neg (show ¬ (1 : Int) > win by omega)] at *
    exact ret _ _ _ _ (Or.inr ⟨by omega, rfl⟩) (by k_asm) (by k_asm)
theorem leftP {ex : Bool} {w : World} {p : Program} {loose : List Str} {mean : ExcName → Option Value} {mg mb : Str → Option Value}
    {dp un : Nat} {gd : Option (List Code)} {cn : Str} {cs : Scope} {a : Addr} {ccd : Value} {cl : List (Str × Addr)} {outer : List Env} {A₀ : Around} {base h₀ : Heap} {L : Addr} {m : Str → Option Value} {s : Shared} {Q E : Value → Shared → Prop}
    (B : Below A₀ base outer h₀) (F : Fr h₀ L s.heap m) (X : (hd.heap_39 w.params).In h₀) (T : Top p loose mean mg mb h₀) (hk : cs.kind = .function) (hdp : dp + 2 < recursionLimit) (hun : un + 16 < cLine)
    {pa pd : Addr} {Bu le re t0 : Int} {opd : Obj} {news : List (Addr × Obj)}
    (N : News h₀ L s.heap news) (mp : (pa, pInst pd) ∈ news) (md : (pd, opd) ∈ news) (p : PacO w Bu le re t0 opd) (ret : ∀ (t : Tok), Q (.int le t) { s with toks := s.toks + 1 }) :
    wpAny (model PP w) (ktrTop dp un gd cn cs L a ccd cl outer) (getAttr (.ref pa) (Str.ofString "left") ex) Q E s := by
  w_on
  obtain ⟨k1, k2, k3, k4, t1, t2, t3, t4⟩ := p
  repeat' (first | (k_unfold; (try dsimp only)) | (k_end; wrow_close) | (walk1 <;> try dsimp only) | (dsimp only; walk1 <;> try dsimp only) | (leave1; walk_say "STEP leave1"; try dsimp only) | fail "no step")
  exact ret _
noncomputable abbrev tInst (td : Addr) : Obj := instObj 220 td
noncomputable abbrev tDict (w : World) (k1 k2 k3 k4 k5 : Tok) (la le sm v4 f : Int) (t1 t2 t3 t4 t5 : Tok) : Obj :=
  dictOf [⟨PyData.keyHash w.params (Str.ofString "latest"), .str (Str.ofString "latest") k1, .int la t1⟩, ⟨PyData.keyHash w.params (Str.ofString "least"), .str (Str.ofString "least") k2, .int le t2⟩, ⟨PyData.keyHash w.params (Str.ofString "smoothed8"), .str (Str.ofString "smoothed8") k3, .int sm t3⟩, ⟨PyData.keyHash w.params (Str.ofString "variance4"), .str (Str.ofString "variance4") k4, .int v4 t4⟩, ⟨PyData.keyHash w.params (Str.ofString "first_at"), .str (Str.ofString "first_at") k5, .int f t5⟩] 5
noncomputable abbrev nInst (rd : Addr) : Obj := instObj 164 rd
noncomputable abbrev nDict (w : World) (k1 k2 k3 k4 k5 k6 : Tok) (dg win fl cr : Int) (t1 t2 t5 t6 : Tok) : Obj :=
  dictOf [⟨PyData.keyHash w.params (Str.ofString "datagram"), .str (Str.ofString "datagram") k1, .int dg t1⟩, ⟨PyData.keyHash w.params (Str.ofString "window"), .str (Str.ofString "window") k2, .int win t2⟩, ⟨PyData.keyHash w.params (Str.ofString "threshold"), .str (Str.ofString "threshold") k3, .none⟩, ⟨PyData.keyHash w.params (Str.ofString "recovery_at"), .str (Str.ofString "recovery_at") k4, .none⟩, ⟨PyData.keyHash w.params (Str.ofString "in_flight"), .str (Str.ofString "in_flight") k5, .int fl t5⟩, ⟨PyData.keyHash w.params (Str.ofString "credit"), .str (Str.ofString "credit") k6, .int cr t6⟩] 6

inductive RttO (w : World) (way : Int) : Obj → Prop
  | mk (k1 k2 k3 k4 k5 : Tok) (la v4 f : Int) (t1 t2 t3 t4 t5 : Tok) : RttO w way (tDict w k1 k2 k3 k4 k5 la way (8 * way) v4 f t1 t2 t3 t4 t5)
inductive RenO (w : World) (win fl : Int) : Obj → Prop
  | mk (k1 k2 k3 k4 k5 k6 : Tok) (dg cr : Int) (t1 t2 t5 t6 : Tok) : RenO w win fl (nDict w k1 k2 k3 k4 k5 k6 dg win fl cr t1 t2 t5 t6)
noncomputable abbrev t0Dict (w : World) (k1 k2 k3 k4 k5 : Tok) (la le sm v4 : Int) (t1 t2 t3 t4 : Tok) : Obj :=
  dictOf [⟨PyData.keyHash w.params (Str.ofString "latest"), .str (Str.ofString "latest") k1, .int la t1⟩, ⟨PyData.keyHash w.params (Str.ofString "least"), .str (Str.ofString "least") k2, .int le t2⟩, ⟨PyData.keyHash w.params (Str.ofString "smoothed8"), .str (Str.ofString "smoothed8") k3, .int sm t3⟩, ⟨PyData.keyHash w.params (Str.ofString "variance4"), .str (Str.ofString "variance4") k4, .int v4 t4⟩, ⟨PyData.keyHash w.params (Str.ofString "first_at"), .str (Str.ofString "first_at") k5, .none⟩] 5
inductive Rtt0 (w : World) : Obj → Prop
  | mk (k1 k2 k3 k4 k5 : Tok) (la le sm v4 : Int) (t1 t2 t3 t4 : Tok) : Rtt0 w (t0Dict w k1 k2 k3 k4 k5 la le sm v4 t1 t2 t3 t4)
section
variable {prog : Program} {w : World} {A : Around} {E : Value → Shared → Prop} {s : Shared} {K : Frag} {h₀ : Heap} {L pa pd : Addr} {m : Str → Option Value} {news : List (Addr × Obj)} {name : Str} {f : Addr} {pl : Sem Bool} {Q : Value × List Value → Shared → Prop}
theorem methRtt {way : Int} {opd : Obj} (F : Fr h₀ L s.heap m) (X : K.In h₀) (N : News h₀ L s.heap news) (mp : (pa, tInst pd) ∈ news) (md : (pd, opd) ∈ news) (p : RttO w way opd)
    (hf : ([Str.ofString "latest", Str.ofString "least", Str.ofString "smoothed8", Str.ofString "variance4", Str.ofString "first_at"].all fun y => !(y == name)) = true)
    (hg : plainGet K 220 name = true) (hi : findIn K (.ref 220) name = some (some (.ref f))) (ht : isFn K (.ref f) = true) (h : Q (.ref f, [.ref pa]) s) : wpAny (model prog w) A (getMethod (.ref pa) name pl) Q E s := by
  obtain ⟨k1, k2, k3, k4, k5, la, v4, f, t1, t2, t3, t4, t5⟩ := p
  exact meth_at (ks := [(_, k1), (_, k2), (_, k3), (_, k4), (_, k5)]) F X N mp md rfl hf hg hi ht h
theorem methRtt0 {opd : Obj} (F : Fr h₀ L s.heap m) (X : K.In h₀) (N : News h₀ L s.heap news) (mp : (pa, tInst pd) ∈ news) (md : (pd, opd) ∈ news) (p : Rtt0 w opd)
    (hf : ([Str.ofString "latest", Str.ofString "least", Str.ofString "smoothed8", Str.ofString "variance4", Str.ofString "first_at"].all fun y => !(y == name)) = true)
    (hg : plainGet K 220 name = true) (hi : findIn K (.ref 220) name = some (some (.ref f))) (ht : isFn K (.ref f) = true) (h : Q (.ref f, [.ref pa]) s) : wpAny (model prog w) A (getMethod (.ref pa) name pl) Q E s := by
  obtain ⟨k1, k2, k3, k4, k5, la, le, sm, v4, t1, t2, t3, t4⟩ := p
  exact meth_at (ks := [(_, k1), (_, k2), (_, k3), (_, k4), (_, k5)]) F X N mp md rfl hf hg hi ht h
theorem methRen {win fl : Int} {opd : Obj} (F : Fr h₀ L s.heap m) (X : K.In h₀) (N : News h₀ L s.heap news) (mp : (pa, nInst pd) ∈ news) (md : (pd, opd) ∈ news) (p : RenO w win fl opd)
    (hf : ([Str.ofString "datagram", Str.ofString "window", Str.ofString "threshold", Str.ofString "recovery_at", Str.ofString "in_flight", Str.ofString "credit"].all fun y => !(y == name)) = true)
    (hg : plainGet K 164 name = true) (hi : findIn K (.ref 164) name = some (some (.ref f))) (ht : isFn K (.ref f) = true) (h : Q (.ref f, [.ref pa]) s) : wpAny (model prog w) A (getMethod (.ref pa) name pl) Q E s := by
  obtain ⟨k1, k2, k3, k4, k5, k6, dg, cr, t1, t2, t5, t6⟩ := p
  exact meth_at (ks := [(_, k1), (_, k2), (_, k3), (_, k4), (_, k5), (_, k6)]) F X N mp md rfl hf hg hi ht h
end
theorem fdiv8 (way : Int) : (8 * way).fdiv 8 = way := by rw [Int.fdiv_eq_ediv_of_nonneg _ (by decide)]; omega

theorem smooth_s {w : World} {p : Program} {loose : List Str} {mean : ExcName → Option Value} {mg mb : Str → Option Value}
    {dp un : Nat} {gd : Option (List Code)} {cn : Str} {cs : Scope} {a : Addr} {ccd : Value} {cl : List (Str × Addr)} {outer : List Env} {A₀ : Around} {base h₀ : Heap} {L : Addr} {m : Str → Option Value} {s : Shared} {Q E : Value → Shared → Prop}
    (B : Below A₀ base outer h₀) (F : Fr h₀ L s.heap m) (X : (hd.heap_39 w.params).In h₀) (T : Top p loose mean mg mb h₀) (hk : cs.kind = .function) (hdp : dp + 2 < recursionLimit) (hun : un + 16 < cLine)
    {ta td : Addr} {way : Int} {otd : Obj} {news : List (Addr × Obj)}
    (N : News h₀ L s.heap news) (mp : (ta, tInst td) ∈ news) (md : (td, otd) ∈ news) (p : RttO w way otd)
    (ret : ∀ (t : Tok) (h' : Heap) (tks : Nat), Fr h₀ L h' m → News h₀ L h' news → Q (.int way t) { s with heap := h', toks := tks }) :
    wpAny (model PP w) (ktrTop dp un gd cn cs L a ccd cl outer) (call (.ref 196) [.ref ta]) Q E s := by
  w_on
  obtain ⟨k1, k2, k3, k4, k5, la, v4, f, t1, t2, t3, t4, t5⟩ := p
  refine wpAny_call ?_
  k_dflt cell_enter
  repeat' (first | (k_unfold; (try dsimp only)) | (k_end; wrow_close) | (walk1 <;> try dsimp only) | (dsimp only; walk1 <;> try dsimp only) | (leave1; walk_say "STEP leave1"; try dsimp only) | fail "no step")
  rw [fdiv8]
  exact ret _ _ _ (by k_asm) (by k_asm)
theorem sample_r {w : World} {p : Program} {loose : List Str} {mean : ExcName → Option Value} {mg mb : Str → Option Value}
    {dp un : Nat} {gd : Option (List Code)} {cn : Str} {cs : Scope} {a : Addr} {ccd : Value} {cl : List (Str × Addr)} {outer : List Env} {A₀ : Around} {base h₀ : Heap} {L : Addr} {m : Str → Option Value} {s : Shared} {Q E : Value → Shared → Prop}
    (B : Below A₀ base outer h₀) (F : Fr h₀ L s.heap m) (X : (hd.heap_39 w.params).In h₀) (T : Top p loose mean mg mb h₀) (hk : cs.kind = .function) (hdp : dp + 6 < recursionLimit) (hun : un + 200 < cLine)
    {ta td : Addr} {k1 k2 k3 k4 k5 : Tok} {la v4 f way now : Int} {t1 t2 t3 t4 t5 u1 u2 u3 : Tok} {rest : List (Addr × Obj)}
    (N : News h₀ L s.heap ((td, tDict w k1 k2 k3 k4 k5 la way (8 * way) v4 f t1 t2 t3 t4 t5) :: (ta, tInst td) :: rest)) (hpa : NeA td ta) (hap : ∀ q ∈ rest, q.1 ≠ td)
    (ret : ∀ (otd' : Obj) (h' : Heap) (tks : Nat), RttO w way otd' → Fr h₀ L h' m → News h₀ L h' ((td, otd') :: (ta, tInst td) :: rest) → Q .none { s with heap := h', toks := tks }) :
    wpAny (model PP w) (ktrTop dp un gd cn cs L a ccd cl outer) (call (.ref 210) [.ref ta, .int way u1, .int 0 u2, .none, .int now u3]) Q E s := by
  w_on
  refine wpAny_call ?_
  k_dflt cell_enter
  repeat' (first | (simp only [ite_self, Int.add_zero, Int.le_refl, decide_true]) | (k_unfold; (try dsimp only)) | (k_end; wrow_close) | (walk1 <;> try dsimp only) | (dsimp only; walk1 <;> try dsimp only) | (leave1; walk_say "STEP leave1"; try dsimp only) | fail "no step")
  all_goals (simp only [ite_self, show way - 0 = way by omega, show 8 * way - (8 * way).fdiv 8 + way = 8 * way by rw [fdiv8]; omega] at *)
  all_goals (exact ret _ _ _ (.mk _ _ _ _ _ _ _ _ _ _ _ _ _) (by k_asm) (by k_asm))
theorem sample_s {w : World} {p : Program} {loose : List Str} {mean : ExcName → Option Value} {mg mb : Str → Option Value}
    {dp un : Nat} {gd : Option (List Code)} {cn : Str} {cs : Scope} {a : Addr} {ccd : Value} {cl : List (Str × Addr)} {outer : List Env} {A₀ : Around} {base h₀ : Heap} {L : Addr} {m : Str → Option Value} {s : Shared} {Q E : Value → Shared → Prop}
    (B : Below A₀ base outer h₀) (F : Fr h₀ L s.heap m) (X : (hd.heap_39 w.params).In h₀) (T : Top p loose mean mg mb h₀) (hk : cs.kind = .function) (hdp : dp + 6 < recursionLimit) (hun : un + 200 < cLine)
    {ta td : Addr} {way : Int} {otd : Obj} {news : List (Addr × Obj)}
    (N : News h₀ L s.heap news) (mp : (ta, tInst td) ∈ news) (md : (td, otd) ∈ news) (p : RttO w way otd) (hpa : NeA td ta) {now : Int} {u1 u2 u3 : Tok}
    (ret : ∀ (otd' : Obj) (h' : Heap) (tks : Nat), RttO w way otd' → Fr h₀ L h' m → (∀ news1, Upd td otd otd' news news1 → News h₀ L h' news1) → Q .none { s with heap := h', toks := tks }) :
    wpAny (model PP w) (ktrTop dp un gd cn cs L a ccd cl outer) (call (.ref 210) [.ref ta, .int way u1, .int 0 u2, .none, .int now u3]) Q E s := by
  obtain ⟨k1, k2, k3, k4, k5, la, v4, f, t1, t2, t3, t4, t5⟩ := p
  exact sample_r B F X T hk hdp hun (news_inM N md mp) hpa off_ne fun o' h' tks h1 F' N' => ret o' h' tks h1 F' fun _ U => news_upd1 (news_outM N') U
theorem sample0_r {w : World} {p : Program} {loose : List Str} {mean : ExcName → Option Value} {mg mb : Str → Option Value}
    {dp un : Nat} {gd : Option (List Code)} {cn : Str} {cs : Scope} {a : Addr} {ccd : Value} {cl : List (Str × Addr)} {outer : List Env} {A₀ : Around} {base h₀ : Heap} {L : Addr} {m : Str → Option Value} {s : Shared} {Q E : Value → Shared → Prop}
    (B : Below A₀ base outer h₀) (F : Fr h₀ L s.heap m) (X : (hd.heap_39 w.params).In h₀) (T : Top p loose mean mg mb h₀) (hk : cs.kind = .function) (hdp : dp + 6 < recursionLimit) (hun : un + 200 < cLine)
    {ta td : Addr} {k1 k2 k3 k4 k5 : Tok} {la le sm v4 way now : Int} {t1 t2 t3 t4 u1 u2 u3 : Tok} {rest : List (Addr × Obj)}
    (N : News h₀ L s.heap ((td, t0Dict w k1 k2 k3 k4 k5 la le sm v4 t1 t2 t3 t4) :: (ta, tInst td) :: rest)) (hpa : NeA td ta) (hap : ∀ q ∈ rest, q.1 ≠ td)
    (ret : ∀ (otd' : Obj) (h' : Heap) (tks : Nat), RttO w way otd' → Fr h₀ L h' m → News h₀ L h' ((td, otd') :: (ta, tInst td) :: rest) → Q .none { s with heap := h', toks := tks }) :
    wpAny (model PP w) (ktrTop dp un gd cn cs L a ccd cl outer) (call (.ref 210) [.ref ta, .int way u1, .int 0 u2, .none, .int now u3]) Q E s := by
  w_on
  refine wpAny_call ?_
  k_dflt cell_enter
  repeat' (first | (k_unfold; (try dsimp only)) | (k_end; wrow_close) | (walk1 <;> try dsimp only) | (dsimp only; walk1 <;> try dsimp only) | (leave1; walk_say "STEP leave1"; try dsimp only) | fail "no step")
  exact ret _ _ _ (.mk _ _ _ _ _ _ _ _ _ _ _ _ _) (by k_asm) (by k_asm)
theorem sample0_s {w : World} {p : Program} {loose : List Str} {mean : ExcName → Option Value} {mg mb : Str → Option Value}
    {dp un : Nat} {gd : Option (List Code)} {cn : Str} {cs : Scope} {a : Addr} {ccd : Value} {cl : List (Str × Addr)} {outer : List Env} {A₀ : Around} {base h₀ : Heap} {L : Addr} {m : Str → Option Value} {s : Shared} {Q E : Value → Shared → Prop}
    (B : Below A₀ base outer h₀) (F : Fr h₀ L s.heap m) (X : (hd.heap_39 w.params).In h₀) (T : Top p loose mean mg mb h₀) (hk : cs.kind = .function) (hdp : dp + 6 < recursionLimit) (hun : un + 200 < cLine)
    {ta td : Addr} {way now : Int} {otd : Obj} {news : List (Addr × Obj)} {u1 u2 u3 : Tok}
    (N : News h₀ L s.heap news) (mp : (ta, tInst td) ∈ news) (md : (td, otd) ∈ news) (p : Rtt0 w otd) (hpa : NeA td ta)
    (ret : ∀ (otd' : Obj) (h' : Heap) (tks : Nat), RttO w way otd' → Fr h₀ L h' m → (∀ news1, Upd td otd otd' news news1 → News h₀ L h' news1) → Q .none { s with heap := h', toks := tks }) :
    wpAny (model PP w) (ktrTop dp un gd cn cs L a ccd cl outer) (call (.ref 210) [.ref ta, .int way u1, .int 0 u2, .none, .int now u3]) Q E s := by
  obtain ⟨k1, k2, k3, k4, k5, la, le, sm, v4, t1, t2, t3, t4⟩ := p
  exact sample0_r B F X T hk hdp hun (news_inM N md mp) hpa off_ne fun o' h' tks h1 F' N' => ret o' h' tks h1 F' fun _ U => news_upd1 (news_outM N') U
theorem rtt_new {w : World} {p : Program} {loose : List Str} {mean : ExcName → Option Value} {mg mb : Str → Option Value}
    {dp un : Nat} {gd : Option (List Code)} {cn : Str} {cs : Scope} {a : Addr} {ccd : Value} {cl : List (Str × Addr)} {outer : List Env} {A₀ : Around} {base h₀ : Heap} {L : Addr} {m : Str → Option Value} {s : Shared} {Q E : Value → Shared → Prop}
    (B : Below A₀ base outer h₀) (F : Fr h₀ L s.heap m) (X : (hd.heap_39 w.params).In h₀) (T : Top p loose mean mg mb h₀) (hk : cs.kind = .function) (hdp : dp + 6 < recursionLimit) (hun : un + 200 < cLine)
    {news : List (Addr × Obj)} (N : News h₀ L s.heap news)
    (ret : ∀ (td ta : Addr) (otd : Obj) (h' : Heap) (tks : Nat), Rtt0 w otd → Fr h₀ L h' m → News h₀ L h' ((ta, tInst td) :: (td, otd) :: news) → (∀ p ∈ news, @LT.lt Nat _ p.1 td) → (∀ p ∈ (td, otd) :: news, @LT.lt Nat _ p.1 ta) → Q (.ref ta) { s with heap := h', toks := tks }) :
    wpAny (model PP w) (ktrTop dp un gd cn cs L a ccd cl outer) (call (.ref 220) []) Q E s := by
  w_on
  k_dflt (refine' call_cls ?k1 ?k2 ?k3 ?k4 ?k5 ?k6 ?_; (case k1 => k_asm); (case k2 => k_asm); (case k3 => k_asm); (case k4 => k_is); (case k5 => k_is); (case k6 => k_is); k_whole)
  intro x' d' h' F' N' l1 l2
  try k_sweep
  k_dflt cell_enter
  repeat' (first | (k_unfold; (try dsimp only)) | (k_end; wrow_close) | (walk1 <;> try dsimp only) | (dsimp only; walk1 <;> try dsimp only) | (leave1; walk_say "STEP leave1"; try dsimp only) | fail "no step")
  exact ret _ _ _ _ _ (.mk _ _ _ _ _ _ _ _ _ _ _ _ _) (by k_asm) (by k_asm) (by assumption) (lt_two (by assumption) (by assumption))
theorem acked_r {w : World} {p : Program} {loose : List Str} {mean : ExcName → Option Value} {mg mb : Str → Option Value}
    {dp un : Nat} {gd : Option (List Code)} {cn : Str} {cs : Scope} {a : Addr} {ccd : Value} {cl : List (Str × Addr)} {outer : List Env} {A₀ : Around} {base h₀ : Heap} {L : Addr} {m : Str → Option Value} {s : Shared} {Q E : Value → Shared → Prop}
    (B : Below A₀ base outer h₀) (F : Fr h₀ L s.heap m) (X : (hd.heap_39 w.params).In h₀) (T : Top p loose mean mg mb h₀) (hk : cs.kind = .function) (hdp : dp + 6 < recursionLimit) (hun : un + 200 < cLine)
    {ra rd : Addr} {k1 k2 k3 k4 k5 k6 : Tok} {dg win fl cr size sent sm now : Int} {t1 t2 t5 t6 u1 u2 u3 u4 : Tok} {rest : List (Addr × Obj)}
    (N : News h₀ L s.heap ((rd, nDict w k1 k2 k3 k4 k5 k6 dg win fl cr t1 t2 t5 t6) :: (ra, nInst rd) :: rest)) (hpa : NeA rd ra) (hap : ∀ q ∈ rest, q.1 ≠ rd)
    (ret : ∀ (ord' : Obj) (h' : Heap) (tks : Nat), RenO w (win + size) (fl - size) ord' → Fr h₀ L h' m → News h₀ L h' ((rd, ord') :: (ra, nInst rd) :: rest) → Q .none { s with heap := h', toks := tks }) :
    wpAny (model PP w) (ktrTop dp un gd cn cs L a ccd cl outer) (call (.ref 133) [.ref ra, .int size u1, .int sent u2, .bool true, .int now u3, .int sm u4]) Q E s := by
  w_on
  refine wpAny_call ?_
  k_dflt cell_enter
  repeat' (first | (k_unfold; (try dsimp only)) | (k_end; wrow_close) | (walk1 <;> try dsimp only) | (dsimp only; walk1 <;> try dsimp only) | (leave1; walk_say "STEP leave1"; try dsimp only) | fail "no step")
  exact ret _ _ _ (.mk _ _ _ _ _ _ _ _ _ _ _ _) (by k_asm) (by k_asm)
theorem acked_s {w : World} {p : Program} {loose : List Str} {mean : ExcName → Option Value} {mg mb : Str → Option Value}
    {dp un : Nat} {gd : Option (List Code)} {cn : Str} {cs : Scope} {a : Addr} {ccd : Value} {cl : List (Str × Addr)} {outer : List Env} {A₀ : Around} {base h₀ : Heap} {L : Addr} {m : Str → Option Value} {s : Shared} {Q E : Value → Shared → Prop}
    (B : Below A₀ base outer h₀) (F : Fr h₀ L s.heap m) (X : (hd.heap_39 w.params).In h₀) (T : Top p loose mean mg mb h₀) (hk : cs.kind = .function) (hdp : dp + 6 < recursionLimit) (hun : un + 200 < cLine)
    {ra rd : Addr} {win fl : Int} {ord : Obj} {news : List (Addr × Obj)}
    (N : News h₀ L s.heap news) (mp : (ra, nInst rd) ∈ news) (md : (rd, ord) ∈ news) (p : RenO w win fl ord) (hpa : NeA rd ra) {size sent sm now : Int} {u1 u2 u3 u4 : Tok}
    (ret : ∀ (ord' : Obj) (h' : Heap) (tks : Nat), RenO w (win + size) (fl - size) ord' → Fr h₀ L h' m → (∀ news1, Upd rd ord ord' news news1 → News h₀ L h' news1) → Q .none { s with heap := h', toks := tks }) :
    wpAny (model PP w) (ktrTop dp un gd cn cs L a ccd cl outer) (call (.ref 133) [.ref ra, .int size u1, .int sent u2, .bool true, .int now u3, .int sm u4]) Q E s := by
  obtain ⟨k1, k2, k3, k4, k5, k6, dg, cr, t1, t2, t5, t6⟩ := p
  exact acked_r B F X T hk hdp hun (news_inM N md mp) hpa off_ne fun o' h' tks h1 F' N' => ret o' h' tks h1 F' fun _ U => news_upd1 (news_outM N') U
theorem sentN_r {w : World} {p : Program} {loose : List Str} {mean : ExcName → Option Value} {mg mb : Str → Option Value}
    {dp un : Nat} {gd : Option (List Code)} {cn : Str} {cs : Scope} {a : Addr} {ccd : Value} {cl : List (Str × Addr)} {outer : List Env} {A₀ : Around} {base h₀ : Heap} {L : Addr} {m : Str → Option Value} {s : Shared} {Q E : Value → Shared → Prop}
    (B : Below A₀ base outer h₀) (F : Fr h₀ L s.heap m) (X : (hd.heap_39 w.params).In h₀) (T : Top p loose mean mg mb h₀) (hk : cs.kind = .function) (hdp : dp + 2 < recursionLimit) (hun : un + 16 < cLine)
    {ra rd : Addr} {k1 k2 k3 k4 k5 k6 : Tok} {dg win fl cr size : Int} {t1 t2 t5 t6 u1 : Tok} {rest : List (Addr × Obj)}
    (N : News h₀ L s.heap ((rd, nDict w k1 k2 k3 k4 k5 k6 dg win fl cr t1 t2 t5 t6) :: (ra, nInst rd) :: rest)) (hpa : NeA rd ra) (hap : ∀ q ∈ rest, q.1 ≠ rd)
    (ret : ∀ (ord' : Obj) (h' : Heap) (tks : Nat), RenO w win (fl + size) ord' → Fr h₀ L h' m → News h₀ L h' ((rd, ord') :: (ra, nInst rd) :: rest) → Q .none { s with heap := h', toks := tks }) :
    wpAny (model PP w) (ktrTop dp un gd cn cs L a ccd cl outer) (call (.ref 119) [.ref ra, .int size u1]) Q E s := by
  w_on
  refine wpAny_call ?_
  k_dflt cell_enter
  repeat' (first | (k_unfold; (try dsimp only)) | (k_end; wrow_close) | (walk1 <;> try dsimp only) | (dsimp only; walk1 <;> try dsimp only) | (leave1; walk_say "STEP leave1"; try dsimp only) | fail "no step")
  exact ret _ _ _ (.mk _ _ _ _ _ _ _ _ _ _ _ _) (by k_asm) (by k_asm)
theorem sentN {w : World} {p : Program} {loose : List Str} {mean : ExcName → Option Value} {mg mb : Str → Option Value}
    {dp un : Nat} {gd : Option (List Code)} {cn : Str} {cs : Scope} {a : Addr} {ccd : Value} {cl : List (Str × Addr)} {outer : List Env} {A₀ : Around} {base h₀ : Heap} {L : Addr} {m : Str → Option Value} {s : Shared} {Q E : Value → Shared → Prop}
    (B : Below A₀ base outer h₀) (F : Fr h₀ L s.heap m) (X : (hd.heap_39 w.params).In h₀) (T : Top p loose mean mg mb h₀) (hk : cs.kind = .function) (hdp : dp + 2 < recursionLimit) (hun : un + 16 < cLine)
    {ra rd : Addr} {win fl : Int} {ord : Obj} {news : List (Addr × Obj)}
    (N : News h₀ L s.heap news) (mp : (ra, nInst rd) ∈ news) (md : (rd, ord) ∈ news) (p : RenO w win fl ord) (hpa : NeA rd ra) {size : Int} {u1 : Tok}
    (ret : ∀ (ord' : Obj) (h' : Heap) (tks : Nat), RenO w win (fl + size) ord' → Fr h₀ L h' m → (∀ news1, Upd rd ord ord' news news1 → News h₀ L h' news1) → Q .none { s with heap := h', toks := tks }) :
    wpAny (model PP w) (ktrTop dp un gd cn cs L a ccd cl outer) (call (.ref 119) [.ref ra, .int size u1]) Q E s := by
  obtain ⟨k1, k2, k3, k4, k5, k6, dg, cr, t1, t2, t5, t6⟩ := p
  exact sentN_r B F X T hk hdp hun (news_inM N md mp) hpa off_ne fun o' h' tks h1 F' N' => ret o' h' tks h1 F' fun _ U => news_upd1 (news_outM N') U
theorem mayN {w : World} {p : Program} {loose : List Str} {mean : ExcName → Option Value} {mg mb : Str → Option Value}
    {dp un : Nat} {gd : Option (List Code)} {cn : Str} {cs : Scope} {a : Addr} {ccd : Value} {cl : List (Str × Addr)} {outer : List Env} {A₀ : Around} {base h₀ : Heap} {L : Addr} {m : Str → Option Value} {s : Shared} {Q E : Value → Shared → Prop}
    (B : Below A₀ base outer h₀) (F : Fr h₀ L s.heap m) (X : (hd.heap_39 w.params).In h₀) (T : Top p loose mean mg mb h₀) (hk : cs.kind = .function) (hdp : dp + 2 < recursionLimit) (hun : un + 16 < cLine)
    {ra rd : Addr} {win fl : Int} {ord : Obj} {news : List (Addr × Obj)}
    (N : News h₀ L s.heap news) (mp : (ra, nInst rd) ∈ news) (md : (rd, ord) ∈ news) (p : RenO w win fl ord) {size : Int} {u1 : Tok}
    (ret : ∀ (h' : Heap) (tks : Nat), Fr h₀ L h' m → News h₀ L h' news → Q (.bool (decide (fl + size ≤ win))) { s with heap := h', toks := tks }) :
    wpAny (model PP w) (ktrTop dp un gd cn cs L a ccd cl outer) (call (.ref 98) [.ref ra, .int size u1]) Q E s := by
  w_on
  obtain ⟨k1, k2, k3, k4, k5, k6, dg, cr, t1, t2, t5, t6⟩ := p
  refine wpAny_call ?_
  k_dflt cell_enter
  repeat' (first | (k_unfold; (try dsimp only)) | (k_end; wrow_close) | (walk1 <;> try dsimp only) | (dsimp only; walk1 <;> try dsimp only) | (leave1; walk_say "STEP leave1"; try dsimp only) | fail "no step")
  exact ret _ _ (by k_asm) (by k_asm)
theorem winN {ex : Bool} {w : World} {p : Program} {loose : List Str} {mean : ExcName → Option Value} {mg mb : Str → Option Value}
    {dp un : Nat} {gd : Option (List Code)} {cn : Str} {cs : Scope} {a : Addr} {ccd : Value} {cl : List (Str × Addr)} {outer : List Env} {A₀ : Around} {base h₀ : Heap} {L : Addr} {m : Str → Option Value} {s : Shared} {Q E : Value → Shared → Prop}
    (B : Below A₀ base outer h₀) (F : Fr h₀ L s.heap m) (X : (hd.heap_39 w.params).In h₀) (T : Top p loose mean mg mb h₀) (hk : cs.kind = .function) (hdp : dp + 2 < recursionLimit) (hun : un + 16 < cLine)
    {ra rd : Addr} {win fl : Int} {ord : Obj} {news : List (Addr × Obj)}
    (N : News h₀ L s.heap news) (mp : (ra, nInst rd) ∈ news) (md : (rd, ord) ∈ news) (p : RenO w win fl ord) (ret : ∀ (t : Tok), Q (.int win t) { s with toks := s.toks + 1 }) :
    wpAny (model PP w) (ktrTop dp un gd cn cs L a ccd cl outer) (getAttr (.ref ra) (Str.ofString "window") ex) Q E s := by
  w_on
  obtain ⟨k1, k2, k3, k4, k5, k6, dg, cr, t1, t2, t5, t6⟩ := p
  repeat' (first | (k_unfold; (try dsimp only)) | (k_end; wrow_close) | (walk1 <;> try dsimp only) | (dsimp only; walk1 <;> try dsimp only) | (leave1; walk_say "STEP leave1"; try dsimp only) | fail "no step")
  exact ret _
theorem reno_new {w : World} {p : Program} {loose : List Str} {mean : ExcName → Option Value} {mg mb : Str → Option Value}
    {dp un : Nat} {gd : Option (List Code)} {cn : Str} {cs : Scope} {a : Addr} {ccd : Value} {cl : List (Str × Addr)} {outer : List Env} {A₀ : Around} {base h₀ : Heap} {L : Addr} {m : Str → Option Value} {s : Shared} {Q E : Value → Shared → Prop}
    (B : Below A₀ base outer h₀) (F : Fr h₀ L s.heap m) (X : (hd.heap_39 w.params).In h₀) (T : Top p loose mean mg mb h₀) (hk : cs.kind = .function) (hdp : dp + 6 < recursionLimit) (hun : un + 200 < cLine)
    {u1 : Tok} {news : List (Addr × Obj)} (N : News h₀ L s.heap news)
    (ret : ∀ (rd ra : Addr) (ord : Obj) (h' : Heap) (tks : Nat), RenO w 12000 0 ord → Fr h₀ L h' m → News h₀ L h' ((ra, nInst rd) :: (rd, ord) :: news) → (∀ p ∈ news, @LT.lt Nat _ p.1 rd) → (∀ p ∈ (rd, ord) :: news, @LT.lt Nat _ p.1 ra) → Q (.ref ra) { s with heap := h', toks := tks }) :
    wpAny (model PP w) (ktrTop dp un gd cn cs L a ccd cl outer) (call (.ref 164) [.int 1200 u1]) Q E s := by
  w_on
  k_dflt (refine' call_cls ?k1 ?k2 ?k3 ?k4 ?k5 ?k6 ?_; (case k1 => k_asm); (case k2 => k_asm); (case k3 => k_asm); (case k4 => k_is); (case k5 => k_is); (case k6 => k_is); k_whole)
  intro x' d' h' F' N' l1 l2
  try k_sweep
  k_dflt cell_enter
  repeat' (first | (k_unfold; (try dsimp only)) | (k_end; wrow_close) | (walk1 <;> try dsimp only) | (dsimp only; walk1 <;> try dsimp only) | (leave1; walk_say "STEP leave1"; try dsimp only) | fail "no step")
  exact ret _ _ _ _ _ (.mk _ _ _ _ _ _ _ _ _ _ _ _) (by k_asm) (by k_asm) (by assumption) (lt_two (by assumption) (by assumption))
theorem fdiv_two {Y d : Int} (hd : 0 < d) : d * Y.fdiv d ≤ Y ∧ Y < d * Y.fdiv d + d := by
  rw [Int.fdiv_eq_ediv_of_nonneg _ (by omega)]
  have h1 := Int.mul_ediv_add_emod Y d
  have h2 := Int.emod_nonneg Y (show d ≠ 0 by omega)
  have h3 := Int.emod_lt_of_pos Y hd
  generalize d * (Y / d) = z at *
  omega
theorem wp_1 {a b : Int} (h : a < b) : 1 ≤ b - a := by omega
theorem wp_2 {x y r : Int} (h : 1 * y ≤ x) (h1 : r < y) : 1 ≤ x - r := by omega
theorem wp_3 {w : Int} (h : 1 ≤ w) : 0 < 5 * w := by omega
theorem wp_4 {A D x P : Int} (e : A = P - D) (h : P ≤ x + D - 1) : A < x := by omega
theorem wp_5 {x D P : Int} (h : x + D - 1 < P + D) : x ≤ P := by omega
theorem wp_6 {x D P : Int} (h : x + D - 1 < P + D) (hX : 1 ≤ x) : ¬ P ≤ D * 0 := by rw [Int.mul_zero]; omega
theorem waitP_pos {le re size win way W : Int} (h : WaitP le re size win way W) (hlt : le < size) (hr0 : 0 ≤ re) (hr1 : re < 4 * way) (hw : 1 ≤ win) :
    1 ≤ W ∧ 5 * win * (W - 1) < (size - le) * (4 * way) - re ∧ (size - le) * (4 * way) - re ≤ 5 * win * W := by
  rcases h with ⟨h, _⟩ | ⟨_, h⟩
  · exact absurd h (Int.not_le.mpr hlt)
  · have hX := wp_2 (Int.mul_le_mul_of_nonneg_right (wp_1 hlt) (Int.le_of_lt (Int.lt_of_le_of_lt hr0 hr1))) hr1
    have hd := wp_3 hw
    have h2 := fdiv_two (Y := (size - le) * (4 * way) - re + 5 * win - 1) hd
    rw [← h] at h2
    have e : 5 * win * (W - 1) = 5 * win * W - 5 * win := by rw [Int.mul_sub, Int.mul_one]
    refine ⟨?_, wp_4 e h2.1, wp_5 h2.2⟩
    rcases Int.lt_or_le 0 W with h3 | h3
    · exact h3
    · exact absurd (Int.mul_le_mul_of_nonneg_left h3 (Int.le_of_lt hd)) (wp_6 h2.2 hX)
theorem late_no {Bu le re size win way now late le' re' : Int} (h : EarnP Bu le re win way (now + late - now) le' re') (hx : 5 * win * late < (size - le) * (4 * way) - re) (hy : 1 ≤ way) : le' < size := by
  have e : now + late - now = late := by omega
  rw [e] at h
  have hd : (0 : Int) < 4 * way := by omega
  have h2 := fdiv_two (Y := re + 5 * win * late) hd
  have h3 : (re + 5 * win * late).fdiv (4 * way) < size - le := by
    rcases Int.lt_or_le ((re + 5 * win * late).fdiv (4 * way)) (size - le) with h3 | h3
    · exact h3
    · have h4 : 4 * way * (size - le) ≤ 4 * way * (re + 5 * win * late).fdiv (4 * way) := Int.mul_le_mul_of_nonneg_left h3 (by omega)
      rw [Int.mul_comm (4 * way) (size - le)] at h4
      omega
  rcases h with ⟨h, h5, _⟩ | ⟨_, h5, _⟩ <;> omega
theorem late_yes {Bu le re size win way now late le' re' : Int} (h : EarnP Bu le re win way (now + late - now) le' re') (hx : (size - le) * (4 * way) - re ≤ 5 * win * late) (hy : 1 ≤ way) (hb : size ≤ Bu) : size ≤ le' := by
  have e : now + late - now = late := by omega
  rw [e] at h
  have hd : (0 : Int) < 4 * way := by omega
  have h2 := fdiv_two (Y := re + 5 * win * late) hd
  have h3 : size - le ≤ (re + 5 * win * late).fdiv (4 * way) := by
    rcases Int.lt_or_le ((re + 5 * win * late).fdiv (4 * way)) (size - le) with h3 | h3
    · have h4 : 4 * way * ((re + 5 * win * late).fdiv (4 * way) + 1) ≤ 4 * way * (size - le) := Int.mul_le_mul_of_nonneg_left h3 (by omega)
      rw [Int.mul_add, Int.mul_one, Int.mul_comm (4 * way) (size - le)] at h4
      omega
    · exact h3
  rcases h with ⟨h, h5, _⟩ | ⟨_, h5, _⟩ <;> omega


def tellsW (i : Nat) (vs : List Value) : Prop := vs = match i with | 0 => [] | 1 => [Value.bool false] | _ => [Value.bool false, Value.bool true]
def tellsO (i : Nat) (o : Obj) : Prop := ∃ vs n, vs.length ≤ 2 ∧ o = listOf vs.toArray n ∧ tellsW i vs
theorem tells_step {i : Nat} {vs : List Value} {b : Bool} {n : Nat} (h : tellsW i vs) (hi : i < 2) (hb : b = decide (i = 1)) : tellsO (i + 1) (listOf (vs.toArray.push (.bool b)) n) := by
  rcases (show i = 0 ∨ i = 1 by omega) with rfl | rfl
  · subst hb; cases h; exact ⟨[.bool false], n, by decide, rfl, rfl⟩
  · subst hb; cases h; exact ⟨[.bool false, .bool true], n, by decide, rfl, rfl⟩
/-- the wait as a turn of the loop has it: a microsecond less, then itself -/
theorem late_at {i : Nat} {W : Int} {t1 t2 : Tok} {v : Value} (hi : i < 2) (h : [Value.int (W - 1) t1, Value.int W t2][i]? = some v) : ∃ la t, v = .int la t ∧ la = W - 1 + i := by
  rcases (show i = 0 ∨ i = 1 by omega) with rfl | rfl
  · cases h; exact ⟨_, _, rfl, by omega⟩
  · cases h; exact ⟨_, _, rfl, by omega⟩
theorem late_dec {i : Nat} {Bu le re size win way now W la le' re' : Int} (hi : i < 2) (hla : la = W - 1 + i) (hE : EarnP Bu le re win way (now + la - now) le' re') (hWb : 5 * win * (W - 1) < (size - le) * (4 * way) - re) (hWc : (size - le) * (4 * way) - re ≤ 5 * win * W) (hy : 1 ≤ way) (hb : size ≤ Bu) : decide (size ≤ le') = decide (i = 1) := by
  rcases (show i = 0 ∨ i = 1 by omega) with rfl | rfl
  · rw [show la = W - 1 by omega] at hE
    rw [decide_eq_false (show ¬ size ≤ le' from Int.not_le.mpr (late_no hE hWb hy))]; rfl
  · rw [show la = W by omega] at hE
    rw [decide_eq_true (late_yes hE hWc hy hb)]; rfl

theorem least_s {w : World} {p : Program} {loose : List Str} {mean : ExcName → Option Value} {mg mb : Str → Option Value}
    {dp un : Nat} {gd : Option (List Code)} {cn : Str} {cs : Scope} {a : Addr} {ccd : Value} {cl : List (Str × Addr)} {outer : List Env} {A₀ : Around} {base h₀ : Heap} {L : Addr} {m : Str → Option Value} {s : Shared} {Q E : Value → Shared → Prop}
    (B : Below A₀ base outer h₀) (F : Fr h₀ L s.heap m) (X : (hd.heap_39 w.params).In h₀) (T : Top p loose mean mg mb h₀) (hk : cs.kind = .function) (hdp : dp + 6 < recursionLimit) (hun : un + 200 < cLine)
    {pa pd : Addr} {Bu le re t0 : Int} {opd : Obj} {news : List (Addr × Obj)}
    (N : News h₀ L s.heap news) (mp : (pa, pInst pd) ∈ news) (md : (pd, opd) ∈ news) (p : PacO w Bu le re t0 opd)
    {size win way now : Int} {u1 u2 u3 u4 : Tok} (hw0 : 1 ≤ win) (hw1 : win ≤ 100000) (hy0 : 1 ≤ way) (hy1 : way ≤ 100000) (hr0 : 0 ≤ re) (hr1 : re < 4 * way) (hb : size ≤ Bu)
    (ret : ∀ (h' : Heap) (tks : Nat), Fr h₀ L h' m → News h₀ L h' news → Q (.bool true) { s with heap := h', toks := tks }) :
    wpAny (model PP w) (ktrTop dp un gd cn cs L a ccd cl outer) (call (.ref 238) [.ref pa, .int size u1, .int win u2, .int way u3, .int now u4]) Q E s := by
  w_on
  refine wpAny_call ?_
  k_dflt cell_enter
  repeat' (first | ((with_reducible show wpAny _ _ (call (.ref 63) _) _ _ _); refine Halt.out ?_) | ((with_reducible show wpAny _ _ (getMethod (.ref _) _ _) _ _ _); k_dflt (refine' methPac ?yF ?yX ?yN ?ymp ?ymd ?yp ?yhf ?yhg ?yhi ?yht ?_; (case yF => k_asm); (case yX => k_asm); (case yN => k_asm); (case ymp => k_mem); (case ymd => k_mem); (case yp => with_reducible assumption); (case yhf => decide +kernel); (case yhi => k_is); (case yhg => k_is); (case yht => k_is))) | (k_unfold; (try dsimp only)) | (k_end; wrow_close) | (walk1 <;> try dsimp only) | (dsimp only; walk1 <;> try dsimp only) | (leave1; walk_say "STEP leave1"; try dsimp only) | fail "no step")
  refine Halt.mk ?_
  k_dflt (refine' wait_s ?B ?F ?X ?T ?hk ?hdp ?hun ?N ?mp ?md ?yp ?a1 ?a2 ?a3 ?a4 ?_)
  (case B => k_asm)
  (case F => k_asm)
  (case X => k_asm)
  (case T => k_asm)
  (case hk => first | exact rfl | assumption)
  (case hdp => ktr_room)
  (case hun => ktr_units)
  (case N => k_asm)
  (case mp => k_dflt k_mem)
  (case md => k_dflt k_mem)
  (case yp => assumption)
  (case a1 => exact hw0)
  (case a2 => exact hw1)
  (case a3 => exact hy0)
  (case a4 => exact hy1)
  intro W tW h' tkW hW F' N'
  try k_sweep
  rcases hW with ⟨hc, rfl⟩ | ⟨hc, hW⟩
  · repeat' (first | ((with_reducible show wpAny _ _ (call (.ref 49) _) _ _ _); refine Halt.out ?_) | ((with_reducible show wpAny _ _ (getMethod (.ref _) _ _) _ _ _); k_dflt (refine' methPac ?yF ?yX ?yN ?ymp ?ymd ?yp ?yhf ?yhg ?yhi ?yht ?_; (case yF => k_asm); (case yX => k_asm); (case yN => k_asm); (case ymp => k_mem); (case ymd => k_mem); (case yp => with_reducible assumption); (case yhf => decide +kernel); (case yhi => k_is); (case yhg => k_is); (case yht => k_is))) | (k_unfold; (try dsimp only)) | (k_end; wrow_close) | (walk1 <;> try dsimp only) | (dsimp only; walk1 <;> try dsimp only) | (leave1; walk_say "STEP leave1"; try dsimp only) | fail "no step")
    refine Halt.mk ?_
    k_dflt (refine' mayP ?B ?F ?X ?T ?hk ?hdp ?hun ?N ?mp ?md ?yp ?_)
    (case B => k_asm)
    (case F => k_asm)
    (case X => k_asm)
    (case T => k_asm)
    (case hk => first | exact rfl | assumption)
    (case hdp => ktr_room)
    (case hun => ktr_units)
    (case N => k_asm)
    (case mp => k_dflt k_mem)
    (case md => k_dflt k_mem)
    (case yp => exact p)
    intro h' tkM F' N'
    try k_sweep
    rw [decide_eq_true hc]
    repeat' (first | (k_unfold; (try dsimp only)) | (k_end; wrow_close) | (walk1 <;> try dsimp only) | (dsimp only; walk1 <;> try dsimp only) | (leave1; walk_say "STEP leave1"; try dsimp only) | fail "no step")
    exact ret _ _ (by k_asm) (by k_asm)
  · obtain ⟨hWa, hWb, hWc⟩ := waitP_pos (Or.inr ⟨hc, hW⟩) hc hr0 hr1 hw0
    clear hW
    have hW0 : ¬ W = 0 := by omega
    repeat' (first | ((with_reducible show wpAny _ _ (execs (Stmt.Return _ _ :: _) _) _ _ _); exfalso; omega) | ((with_reducible show wpAny _ _ (call (.ref 49) _) _ _ _); refine Halt.out ?_) | ((with_reducible show wpAny _ _ (getMethod (.ref _) _ _) _ _ _); k_dflt (refine' methPac ?yF ?yX ?yN ?ymp ?ymd ?yp ?yhf ?yhg ?yhi ?yht ?_; (case yF => k_asm); (case yX => k_asm); (case yN => k_asm); (case ymp => k_mem); (case ymd => k_mem); (case yp => with_reducible assumption); (case yhf => decide +kernel); (case yhi => k_is); (case yhg => k_is); (case yht => k_is))) | (k_unfold; (try dsimp only)) | (k_end; wrow_close) | (walk1 <;> try dsimp only) | (dsimp only; walk1 <;> try dsimp only) | (leave1; walk_say "STEP leave1"; try dsimp only) | fail "no step")
    refine Halt.mk ?_
    k_dflt (refine' mayP ?B ?F ?X ?T ?hk ?hdp ?hun ?N ?mp ?md ?yp ?_)
    (case B => k_asm)
    (case F => k_asm)
    (case X => k_asm)
    (case T => k_asm)
    (case hk => first | exact rfl | assumption)
    (case hdp => ktr_room)
    (case hun => ktr_units)
    (case N => k_asm)
    (case mp => k_dflt k_mem)
    (case md => k_dflt k_mem)
    (case yp => exact p)
    intro h' tkM F' N'
    try k_sweep
    rw [decide_eq_false (Int.not_le.mpr hc)]
    obtain ⟨k1, k2, k3, k4, t1, t2, t3, t4⟩ := p
    repeat' (first | ((with_reducible show wpAny _ _ (exec (Stmt.For _ _ _ _ _) _) _ _ _); (rename Fr _ _ _ _ => lF'); (with_unfolding_all refine' For_turns lF' ?_; k_whole)) | ((with_reducible show wpAny _ _ (pyIter (Value.ref _)) (fun it s₂ => TurnsAt _ _ _ _ _ _ _ _ _ it s₂) _ _); refine Halt.out ?_) | (k_unfold; (try dsimp only)) | (k_end; wrow_close) | (walk1 <;> try dsimp only) | (dsimp only; walk1 <;> try dsimp only) | (leave1; walk_say "STEP leave1"; try dsimp only) | fail "no step")
    refine Halt.mk ?_
    rename_i F1 N1 l0
    (with_unfolding_all refine' tuple_acc (vs := [_, _]) (n := _) [Str.ofString "late", Str.ofString "twin"] tellsO ?hh ?F ?N ?hc ?hd ?hO ?turn ?done)
    case hh => rfl
    case F => exact F1
    case N => exact N1
    case hc => rfl
    case hd => rfl
    case hO => exact ⟨[], _, by decide, rfl, rfl⟩
    case turn =>
      intro i v o₁ u h tk I o hi hv hO hne1 hne2 hne3 F' N'
      replace hne1 : NeA _ _ := hne1
      replace hne2 : NeA _ _ := hne2
      dsimp only [envOf] at F' N'
      obtain ⟨la, tla, rfl, hla⟩ := late_at hi hv
      obtain ⟨xs, nx, hxs, rfl, hO⟩ := hO
      repeat' (first | ((with_reducible show wpAny _ _ (call (.ref 66) _) _ _ _); refine Halt.out ?_) | (k_unfold; (try dsimp only)) | (k_end; wrow_close) | (walk1 <;> try dsimp only) | (dsimp only; walk1 <;> try dsimp only) | (leave1; walk_say "STEP leave1"; try dsimp only) | fail "no step")
      refine Halt.mk ?_
      k_dflt (refine' pacer_new ?B ?F ?X ?T ?hk ?hdp ?hun ?N  ?_)
      (case B => k_asm)
      (case F => k_asm)
      (case X => k_asm)
      (case T => k_asm)
      (case hk => first | exact rfl | assumption)
      (case hdp => ktr_room)
      (case hun => ktr_units)
      (case N => k_asm)
      intro pd2 pa2 opd2 h' tkN hp2 F' N' l1 l2
      try k_sweep
      obtain ⟨j1, j2, j3, j4, x1, x2, x3, x4⟩ := hp2
      repeat' (first | ((with_reducible show wpAny _ _ (call (.ref 42) _) _ _ _); refine Halt.out ?_) | (k_unfold; (try dsimp only)) | (k_end; wrow_close) | (walk1 <;> try dsimp only) | (dsimp only; walk1 <;> try dsimp only) | (leave1; walk_say "STEP leave1"; try dsimp only) | fail "no step")
      refine Halt.mk ?_
      k_dflt (refine' earn_s ?B ?F ?X ?T ?hk ?hdp ?hun ?N ?mp ?md ?yp ?ne ?a1 ?a2 ?a3 ?a4 ?_)
      (case B => k_asm)
      (case F => k_asm)
      (case X => k_asm)
      (case T => k_asm)
      (case hk => first | exact rfl | assumption)
      (case hdp => ktr_room)
      (case hun => ktr_units)
      (case N => k_asm)
      (case mp => k_dflt k_mem)
      (case md => k_dflt k_mem)
      (case yp => exact (.mk _ _ _ _ _ _ _ _))
      (case ne => k_ne)
      (case a1 => omega)
      (case a2 => exact hw1)
      (case a3 => exact hy0)
      (case a4 => exact hy1)
      intro le' re' opd3 h' tkE hE hp3 F' H
      have N' := H _ (by k_upd)
      clear H
      try k_sweep
      have hdc := late_dec hi hla hE hWb hWc hy0 hb
      clear hE
      repeat' (first | ((with_reducible show wpAny _ _ (call (.ref 49) _) _ _ _); refine Halt.out ?_) | ((with_reducible show wpAny _ _ (getMethod (.ref _) _ _) _ _ _); k_dflt (refine' methPac ?yF ?yX ?yN ?ymp ?ymd ?yp ?yhf ?yhg ?yhi ?yht ?_; (case yF => k_asm); (case yX => k_asm); (case yN => k_asm); (case ymp => k_mem); (case ymd => k_mem); (case yp => with_reducible assumption); (case yhf => decide +kernel); (case yhi => k_is); (case yhg => k_is); (case yht => k_is))) | (k_unfold; (try dsimp only)) | (k_end; wrow_close) | (walk1 <;> try dsimp only) | (dsimp only; walk1 <;> try dsimp only) | (leave1; walk_say "STEP leave1"; try dsimp only) | fail "no step")
      refine Halt.mk ?_
      k_dflt (refine' mayP ?B ?F ?X ?T ?hk ?hdp ?hun ?N ?mp ?md ?yp ?_)
      (case B => k_asm)
      (case F => k_asm)
      (case X => k_asm)
      (case T => k_asm)
      (case hk => first | exact rfl | assumption)
      (case hdp => ktr_room)
      (case hun => ktr_units)
      (case N => k_asm)
      (case mp => k_dflt k_mem)
      (case md => k_dflt k_mem)
      (case yp => exact hp3)
      intro h' tkM F' N'
      try k_sweep
      repeat' (first | ((with_reducible show wpAny _ _ (call (Value.builtin "list.append") _) _ _ _); k_dflt (refine' append_K ?k1 ?k2 ?k3 ?_ ?z; (case k1 => k_asm); (case k2 => k_asm); (case k3 => k_upd); (case z => (simp only [List.size_toArray, PySem.sizeLine_eq]; omega)); k_whole); intro h' F' N'; (try k_sweep)) | (k_unfold; (try dsimp only)) | (k_end; wrow_close) | (walk1 <;> try dsimp only) | (dsimp only; walk1 <;> try dsimp only) | (leave1; walk_say "STEP leave1"; try dsimp only) | fail "no step")
      refine turn_acc (by k_asm) (by k_asm) (by k_mem) (by k_mem) (by k_mem) (fun q hq => by (repeat (first | exact hq | refine List.mem_cons_of_mem _ ?_))) (neA hne1) (neA hne2) hne3 ?_ ?_
      · intro y hy
        have hy' := hy
        simp only [List.contains_cons, List.contains_nil, Bool.or_false, Bool.or_eq_false_iff, beq_eq_false_iff_ne, ne_eq] at hy'
        simp only [hy, hy'.1, hy'.2, if_false, Bool.false_eq_true]
      · exact tells_step hO hi hdc
    case done =>
      intro o₁ u h tk hO F' N'
      dsimp only [envOf] at F' N'
      obtain ⟨xs, nx, hxs, rfl, hO⟩ := hO
      cases hO
      repeat' (first | ((with_reducible show wpAny _ _ (compareOp CmpOp.Eq (Value.ref _) (Value.ref _)) _ _ _); k_dflt (refine' eq_dataH (by ke_read) (by ke_read) (by ke_shaped) (by ke_shaped) ?yu ?_; (case yu => ktr_units)); ke_norm) | (k_unfold; (try dsimp only)) | (k_end; wrow_close) | (walk1 <;> try dsimp only) | (dsimp only; walk1 <;> try dsimp only) | (leave1; walk_say "STEP leave1"; try dsimp only) | fail "no step")
      refine ret _ _ (by k_asm) (fun q hq => ?_)
      rename_i kN _ _
      refine kN q ?_
      (repeat (first | exact hq | refine List.mem_cons_of_mem _ ?_))
noncomputable abbrev tupO (x y : Int) (tx ty : Tok) (n : Nat) : Obj := { cls := .type "tuple", data := .seq [.int x tx, .int y ty].toArray n }
/-- the values are pairs of ints that the ledger bears -/
inductive Prs (led : List (Addr × Obj)) : List Value → List (Int × Int) → Prop
  | nil : Prs led [] []
  | cons {a : Addr} {x y : Int} {tx ty : Tok} {n : Nat} {vs : List Value} {ps : List (Int × Int)} (h : (a, tupO x y tx ty n) ∈ led) (r : Prs led vs ps) : Prs led (Value.ref a :: vs) ((x, y) :: ps)
section
variable {led led' : List (Addr × Obj)} {v : Value} {vs : List Value} {ps : List (Int × Int)} {C : Prop}
theorem Prs.len (h : Prs led vs ps) : vs.length = ps.length := by
  induction h with
  | nil => rfl
  | cons _ _ ih => exact congrArg Nat.succ ih
theorem Prs.mono (h : Prs led vs ps) (hs : ∀ q ∈ led, q ∈ led') : Prs led' vs ps := by
  induction h with
  | nil => exact .nil
  | cons h _ ih => exact .cons (hs _ h) ih
theorem Prs.drop (h : Prs led vs ps) (k : Nat) : Prs led (vs.drop k) (ps.drop k) := by
  induction h generalizing k with
  | nil => rw [List.drop_nil, List.drop_nil]; exact .nil
  | cons h r ih =>
    cases k with
    | zero => exact .cons h r
    | succ k => exact ih k
theorem Prs.at {i : Nat} (h : Prs led vs ps) (hv : vs[i]? = some v) (k : ∀ a x y tx ty n, v = Value.ref a → ps[i]? = some (x, y) → (a, tupO x y tx ty n) ∈ led → C) : C := by
  induction h generalizing i with
  | nil => cases hv
  | cons h r ih =>
    cases i with
    | zero => cases hv; exact k _ _ _ _ _ _ rfl rfl h
    | succ i => exact ih hv k
theorem Prs.snoc (h : Prs led vs ps) {a : Addr} {x y : Int} {tx ty : Tok} {n : Nat} (hm : (a, tupO x y tx ty n) ∈ led) : Prs led (vs ++ [Value.ref a]) (ps ++ [(x, y)]) := by
  induction h with
  | nil => exact .cons hm .nil
  | cons h _ ih => exact .cons h ih
theorem Prs.cons_k {z t : Int} (h : Prs led (v :: vs) ((z, t) :: ps)) (k : ∀ a tx ty n, v = Value.ref a → (a, tupO z t tx ty n) ∈ led → Prs led vs ps → C) : C := by
  cases h with
  | cons hm r => exact k _ _ _ _ rfl hm r
theorem Prs.nil_inv (h : Prs led [] ps) : ps = [] := by
  cases h with
  | nil => rfl
end
noncomputable def sG (l : List (Int × Int)) : Int := (l.map (·.1)).sum
noncomputable def sS (l : List (Int × Int)) : Int := (l.map (·.2)).sum
/-- between any two looks no more goes than the burst and what was earned -/
def Within (C B : Int) (ps : List (Int × Int)) : Prop :=
  ∀ i x y, ps[i]? = some (x, y) → ∀ j, C * (y + sS ((ps.drop (i + 1)).take j) - B) ≤ sG ((ps.drop (i + 1)).take j)

theorem within_s {w : World} {p : Program} {loose : List Str} {mean : ExcName → Option Value} {mg mb : Str → Option Value}
    {dp un : Nat} {gd : Option (List Code)} {cn : Str} {cs : Scope} {a : Addr} {ccd : Value} {cl : List (Str × Addr)} {outer : List Env} {A₀ : Around} {base h₀ : Heap} {L : Addr} {m : Str → Option Value} {s : Shared} {Q E : Value → Shared → Prop}
    (B : Below A₀ base outer h₀) (F : Fr h₀ L s.heap m) (X : (hd.heap_39 w.params).In h₀) (T : Top p loose mean mg mb h₀) (hk : cs.kind = .function) (hdp : dp + 6 < recursionLimit) (hun : un + 200 < cLine)
    {lo : Addr} {n : Nat} {vs : List Value} {ps : List (Int × Int)} {Bu way : Int} {u1 u2 : Tok} {news : List (Addr × Obj)}
    (N : News h₀ L s.heap news) (ml : (lo, listOf vs.toArray n) ∈ news) (hp : Prs news vs ps) (hz : vs.length ≤ 12) (hy0 : 1 ≤ way) (hy1 : way ≤ 100000) (hW : Within (4 * way) Bu ps)
    (ret : ∀ (h' : Heap) (tks : Nat), Fr h₀ L h' m → News h₀ L h' news → Q (.bool true) { s with heap := h', toks := tks }) :
    wpAny (model PP w) (ktrTop dp un gd cn cs L a ccd cl outer) (call (.ref 245) [.ref lo, .int Bu u1, .int way u2]) Q E s := by
  w_on
  refine wpAny_call ?_
  k_dflt cell_enter
  repeat' (first | ((with_reducible show wpAny _ _ (exec (Stmt.For _ _ _ _ _) _) _ _ _); (rename Fr _ _ _ _ => lF'); (with_unfolding_all refine' For_invVF lF' ?yk1 ?yk2 ?_ (hE := by with_reducible assumption); (case yk1 => exact rfl); (case yk2 => exact rfl); k_whole)) | ((with_reducible show wpAny _ _ (pyIter (Value.ref _)) (fun it s₂ => LoopAtV _ _ _ _ _ _ _ _ _ it s₂) _ _); refine Halt.out ?_) | ((with_reducible show wpAny _ _ (call (Value.builtin "len") [Value.ref _]) _ _ _); k_dflt (refine' my_len ?yN ?ym ?yz ?_; (case yN => k_asm); (case ym => k_mem); (case yz => omega); k_whole)) | (k_unfold; (try dsimp only)) | (k_end; wrow_close) | (walk1 <;> try dsimp only) | (dsimp only; walk1 <;> try dsimp only) | (leave1; walk_say "STEP leave1"; try dsimp only) | fail "no step")
  refine Halt.mk ?_
  rename_i hR F1 N1 _
  (with_unfolding_all refine' range_names (n := vs.length) [Str.ofString "first", Str.ofString "earned", Str.ofString "went", Str.ofString "gained", Str.ofString "sent"] ?hh ?hr ?hsm ?hsz ?F ?N ?turn ?done)
  case hh => rfl
  case hr => exact hR
  case hsm => exact small_one (by decide) (by decide) (by omega) (by omega)
  case hsz => (rw [rangeSize_nat]; omega)
  case F => exact F1
  case N => exact N1
  case turn =>
    intro i t u h tk I o hi hne F' N'
    dsimp only [envOf] at F' N'
    obtain ⟨v, hv⟩ : ∃ v, vs[i]? = some v := ⟨vs[i], by simp [hi]⟩
    refine hp.at hv ?_
    intro a x y tx ty n' e hps hmem
    subst e
    repeat' (first | ((with_reducible show wpAny _ _ (exec (Stmt.Assign [Expr.Tuple [Expr.Name _ _, Expr.Name _ _] _ _] _ _) _) _ _ _); k_dflt (refine' tup2 ?_ ?hs ?hw; (case hs => with_unfolding_all rfl); (case hw => with_unfolding_all rfl))) | ((with_reducible show wpAny _ _ (exec (Stmt.For (Expr.Tuple _ _ _) _ _ _ _) _) _ _ _); (rename Fr _ _ _ _ => lF'); (with_unfolding_all refine' For_turns lF' ?_; k_whole)) | ((with_reducible show wpAny _ _ (pyIter (Value.ref _)) (fun it s₂ => TurnsAt _ _ _ _ _ _ _ _ _ it s₂) _ _); refine Halt.out ?_) | ((with_reducible show wpAny _ _ (subscriptTail (Expr.Name _ _) (Expr.Slice _ _ _ _) (Value.ref _) (Value.ref _)) _ _ _); k_dflt (refine' kms_slice_lit ?yF ?yN ?yl ?yp ?yq ?ye ?_ ?ys ?yt ?yz; (case yF => k_asm); (case yN => k_asm); (case yl => kmk_list); (case yp => kmk_part); (case yq => kmk_part); (case ye => exact my_pick _ _); (case ys => with_unfolding_all rfl); (case yt => kmk_pure); (case yz => rw [List.size_toArray, PySem.sizeLine_eq]; omega)); intro D' h' F' N' l1; (try k_sweep)) | ((with_reducible show wpAny _ _ (subscriptTail _ _ (Value.ref _) (Value.int (0 + ((_ : Nat) : Int)) _)) _ _ _); k_dflt (refine' my_item ?yN ?ym ?yv ?yz ?_ ?yhs ?yhg; (case yN => k_asm); (case ym => k_mem); (case yv => with_reducible assumption); (case yz => omega); (case yhs => with_unfolding_all rfl); (case yhg => intro _; with_unfolding_all rfl); k_whole)) | ((with_reducible show wpAny _ _ (call (Value.builtin "len") [Value.ref _]) _ _ _); k_dflt (refine' my_len ?yN ?ym ?yz ?_; (case yN => k_asm); (case ym => k_mem); (case yz => omega); k_whole)) | (k_unfold; (try dsimp only)) | (k_end; wrow_close) | ((with_reducible show wpAny _ _ (execs _ _) _ _ _); dsimp only) | ((with_reducible show wpAny _ _ (storeName _ _ _) _ _ _); dsimp only) | walk1 | (dsimp only; walk1) | (leave1; walk_say "STEP leave1"; try dsimp only) | fail "no step")
    refine Halt.mk ?_
    dsimp only
    (with_unfolding_all refine' list_two (vs := vs.drop (i + 1)) (n := 0) [Str.ofString "earned", Str.ofString "went", Str.ofString "gained", Str.ofString "sent"] (Str.ofString "earned") (Str.ofString "went") (fun j => sG ((ps.drop (i + 1)).take j)) (fun j => y + sS ((ps.drop (i + 1)).take j)) ?hh2 ?F2 ?N2 ?hc2 ?hd2 ?hp2 ?hq2 ?turn2 ?done2)
    case hh2 => rfl
    case F2 => exact F'
    case N2 => exact N'
    case hc2 => rfl
    case hd2 => rfl
    case hp2 => exact rfl
    case hq2 =>
      have e0 : y + sS ((ps.drop (i + 1)).take 0) = y := by simp [sS]
      try dsimp only
      rw [e0]
      exact rfl
    case turn2 =>
      intro j v te tw u' h2 tk2 I2 o2 hj hvj n1 n2 F' N'
      dsimp only [envOf] at F' N'
      refine (hp.drop (i + 1)).at hvj ?_
      intro a2 x2 y2 tx2 ty2 n2' e hps2 hmem2
      subst e
      have hWj := hW i x y hps j
      repeat' (first | ((with_reducible show wpAny _ _ (exec (Stmt.Assign [Expr.Tuple [Expr.Name _ _, Expr.Name _ _] _ _] _ _) _) _ _ _); k_dflt (refine' tup2 ?_ ?hs ?hw; (case hs => with_unfolding_all rfl); (case hw => with_unfolding_all rfl))) | (k_unfold; (try dsimp only)) | (k_end; wrow_close) | (walk1 <;> try dsimp only) | (dsimp only; walk1 <;> try dsimp only) | (leave1; walk_say "STEP leave1"; try dsimp only) | fail "no step")
      have eG : sG ((ps.drop (i + 1)).take (j + 1)) = sG ((ps.drop (i + 1)).take j) + x2 := by rw [List.take_add_one, hps2]; simp [sG]
      have eS : y + sS ((ps.drop (i + 1)).take (j + 1)) = y + sS ((ps.drop (i + 1)).take j) + y2 := by rw [List.take_add_one, hps2]; simp [sS]; omega
      refine turn_two (names := [Str.ofString "earned", Str.ofString "went", Str.ofString "gained", Str.ofString "sent"]) (p := Str.ofString "earned") (q := Str.ofString "went") (f := fun j => sG ((ps.drop (i + 1)).take j)) (g := fun j => y + sS ((ps.drop (i + 1)).take j)) (i := j) (by k_asm) (by k_asm) (by k_mem) (by k_mem) (fun q hq => by (repeat (first | exact hq | refine List.mem_cons_of_mem _ ?_))) n1 n2 ?_ ?_ ?_
      · intro z hz'
        have hy' := hz'
        simp only [List.contains_cons, List.contains_nil, Bool.or_false, Bool.or_eq_false_iff, beq_eq_false_iff_ne, ne_eq] at hy'
        simp only [hz', hy', if_false, Bool.false_eq_true]
      · try dsimp only
        rw [eG]
        exact ⟨_, rfl⟩
      · try dsimp only
        rw [eS]
        exact ⟨_, rfl⟩
    case done2 =>
      intro te tw u' h2 tk2 F' N'
      dsimp only [envOf] at F' N'
      have hWj := hW i x y hps (vs.drop (i + 1)).length
      repeat' (first | ((with_reducible show wpAny _ _ (exec (Stmt.Assign [Expr.Tuple [Expr.Name _ _, Expr.Name _ _] _ _] _ _) _) _ _ _); k_dflt (refine' tup2 ?_ ?hs ?hw; (case hs => with_unfolding_all rfl); (case hw => with_unfolding_all rfl))) | (k_unfold; (try dsimp only)) | (k_end; wrow_close) | (walk1 <;> try dsimp only) | (dsimp only; walk1 <;> try dsimp only) | (leave1; walk_say "STEP leave1"; try dsimp only) | fail "no step")
      refine turn_names (by k_asm) (by k_asm) (by k_mem) (fun q hq => by (repeat (first | exact hq | refine List.mem_cons_of_mem _ ?_))) hne ?_
      intro z hz'
      have hy' := hz'
      simp only [List.contains_cons, List.contains_nil, Bool.or_false, Bool.or_eq_false_iff, beq_eq_false_iff_ne, ne_eq] at hy'
      have hz2 : [Str.ofString "earned", Str.ofString "went", Str.ofString "gained", Str.ofString "sent"].contains z = false := by
        simp only [List.contains_cons, List.contains_nil, Bool.or_false, Bool.or_eq_false_iff, beq_eq_false_iff_ne, ne_eq]
        exact hy'.2
      simp only [hz', hz2, hy', if_false, Bool.false_eq_true]
  case done =>
    intro u h tk F' N'
    dsimp only [envOf] at F' N'
    repeat' (first | ((with_reducible show wpAny _ _ (exec (Stmt.Assign [Expr.Tuple [Expr.Name _ _, Expr.Name _ _] _ _] _ _) _) _ _ _); k_dflt (refine' tup2 ?_ ?hs ?hw; (case hs => with_unfolding_all rfl); (case hw => with_unfolding_all rfl))) | (k_unfold; (try dsimp only)) | (k_end; wrow_close) | (walk1 <;> try dsimp only) | (dsimp only; walk1 <;> try dsimp only) | (leave1; walk_say "STEP leave1"; try dsimp only) | fail "no step")
    exact ret _ _ (by k_asm) (by k_asm)
/-- the law's own statements, taken out of the given program -/
noncomputable def stParts (s : Stmt) : List Stmt × Scope :=
  s.casesOn (motive_2 := fun _ => List Stmt × Scope) (fun _ _ a _ _ _ b _ _ _ => (a, b)) (fun _ _ _ _ _ _ _ _ _ _ => ([], default)) (fun _ _ _ _ _ _ _ _ _ _ _ => ([], default)) (fun _ _ => ([], default)) (fun _ _ => ([], default)) (fun _ _ _ => ([], default)) (fun _ _ _ _ _ _ _ => ([], default)) (fun _ _ _ _ => ([], default)) (fun _ _ _ _ _ => ([], default)) (fun _ _ a _ _ => (a, default)) (fun _ _ _ _ _ => ([], default)) (fun _ _ _ _ => ([], default)) (fun _ _ _ _ => ([], default)) (fun _ _ _ => ([], default)) (fun _ _ _ => ([], default)) (fun _ _ _ => ([], default)) (fun _ _ _ => ([], default)) (fun _ _ _ _ _ => ([], default)) (fun _ _ _ _ _ => ([], default)) (fun _ _ _ => ([], default)) (fun _ _ => ([], default)) (fun _ _ _ _ => ([], default)) (fun _ _ => ([], default)) (fun _ _ => ([], default)) (fun _ _ => ([], default)) (fun _ => ([], default)) (fun _ => ([], default)) (fun _ => ([], default))
noncomputable def lawParts : List Stmt × Scope := (PySem.Challenge.pw_pb0523_01.main.body[19]?).elim ([], default) stParts
noncomputable def lawScope : Scope := lawParts.2
noncomputable def turnBody : List Stmt := (lawParts.1[5]?).elim [] fun s => (stParts s).1
noncomputable def packetBody : List Stmt := (turnBody[9]?).elim [] fun s => (stParts s).1
def Has (m : Str → Option Value) : List (Str × Value) → Prop
  | [] => True
  | p :: r => m p.1 = some p.2 ∧ Has m r
noncomputable def over (kvs : List (Str × Value)) (u : Str → Option Value) (y : Str) : Option Value := match List.lookup y kvs with
  | some v => some v
  | none => u y
theorem has_over {m : Str → Option Value} {kvs : List (Str × Value)} (h : Has m kvs) : over kvs m = m := by
  induction kvs with
  | nil => rfl
  | cons p r ih =>
    funext y
    have ih := congrFun (ih h.2) y
    unfold over at ih ⊢
    rw [List.lookup_cons]
    by_cases e : y = p.1
    · rw [e, show (p.1 == p.1) = true from beq_self_eq_true _]
      exact h.1.symm
    · rw [show (y == p.1) = false from beq_false_of_ne e]
      exact ih
theorem has_fr {h₀ h : Heap} {L : Addr} {m : Str → Option Value} {kvs : List (Str × Value)} (H : Has m kvs) (F : Fr h₀ L h m) : Fr h₀ L h (over kvs m) := by rw [has_over H]; exact F

theorem has_other {m : Str → Option Value} {x : Str} {v : Option Value} {kvs : List (Str × Value)} (h : Has m kvs) (hx : (kvs.map (·.1)).all (fun y => !(y == x)) = true) : Has (fun y => if y = x then v else m y) kvs := by
  induction kvs with
  | nil => trivial
  | cons p r ih =>
    rw [List.map_cons, List.all_cons, Bool.and_eq_true] at hx
    refine ⟨?_, ih h.2 hx.2⟩
    show (if p.1 = x then v else m p.1) = _
    rw [if_neg (fun e => by rw [e, beq_self_eq_true] at hx; exact absurd hx.1 (by decide))]
    exact h.1

noncomputable abbrev sinO (s0 s1 : Int) (t0 t1 : Tok) (n : Nat) : Obj := listOf [.int s0 t0, .int s1 t1].toArray n
section
variable {prog : Program} {w : World} {A : Around} {E : Value → Shared → Prop} {s : Shared} {h₀ : Heap} {L D : Addr} {news : List (Addr × Obj)} {n : Nat}
theorem sin0 {value slice : PySem.Expr} {x y : Int} {tx ty u : Tok} {Q : Value → Shared → Prop} (N : News h₀ L s.heap news) (hm : (D, sinO x y tx ty n) ∈ news) (h : Q (.int x tx) s)
    (hs : subscripted slice false (.ref D) (.int 0 u) = operate [.ref D, .int 0 u] (getItem (.ref D) (.int 0 u))) : wpAny (model prog w) A (subscriptTail value slice (.ref D) (.int 0 u)) Q E s :=
  tail_any (News.isList N hm).typeIs slot_list_getitem.lookup (wpAny_getItem_list (News.isList N hm) (by omega) (by omega) (by rfl) h) hs
theorem sin1 {value slice : PySem.Expr} {x y : Int} {tx ty u : Tok} {Q : Value → Shared → Prop} (N : News h₀ L s.heap news) (hm : (D, sinO x y tx ty n) ∈ news) (h : Q (.int y ty) s)
    (hs : subscripted slice false (.ref D) (.int 1 u) = operate [.ref D, .int 1 u] (getItem (.ref D) (.int 1 u))) : wpAny (model prog w) A (subscriptTail value slice (.ref D) (.int 1 u)) Q E s :=
  tail_any (News.isList N hm).typeIs slot_list_getitem.lookup (wpAny_getItem_list (News.isList N hm) (by omega) (by omega) (by rfl) h) hs
end
inductive SinO (s0 s1 : Int) : Obj → Prop
  | mk (t0 t1 : Tok) (n : Nat) : SinO s0 s1 (sinO s0 s1 t0 t1 n)
def PrsO (tl : List (Addr × Obj)) (ps : List (Int × Int)) (o : Obj) : Prop := ∃ vs n, Prs tl vs ps ∧ o = listOf vs.toArray n
def Tups (tl : List (Addr × Obj)) : Prop := ∀ q ∈ tl, q.2.cls = .type "tuple"
structure Pl where
  now : Int
  le : Int
  re : Int
  win : Int
  fl : Int
  s0 : Int
  s1 : Int
  k : Int
  looks : List (Int × Int)
  out : List (Int × Int)
/-- what the ledger bears between the law's statements -/
structure St (w : World) (a : Ad) (way Bu : Int) (σ : Pl) (si : Addr) (ob ol ord otd opd osi olo oou : Obj) (tl : List (Addr × Obj)) : Prop where
  D : Dis a si tl
  p1 : BoxO a.l σ.k ob
  p2 : IntsO ol
  p3 : RenO w σ.win σ.fl ord
  p4 : RttO w way otd
  p5 : PacO w Bu σ.le σ.re σ.now opd
  p6 : SinO σ.s0 σ.s1 osi
  p7 : PrsO tl σ.looks olo
  p8 : PrsO tl σ.out oou
  p9 : Tups tl
noncomputable abbrev fixN (a : Ad) (way Bu : Int) (t1 t2 : Tok) : List (Str × Value) :=
  [(Str.ofString "box", .ref a.b), (Str.ofString "way", .int way t1), (Str.ofString "burst", .int Bu t2), (Str.ofString "reno", .ref a.ra), (Str.ofString "rtt", .ref a.ta), (Str.ofString "pacer", .ref a.pa), (Str.ofString "looks", .ref a.lo), (Str.ofString "out", .ref a.ou)]
section
variable {a : Ad} {si si' : Addr} {ob ol ord otd opd osi olo oou : Obj} {tl : List (Addr × Obj)} {x : Addr × Obj} {all : List (Addr × Obj)} {h₀ h : Heap} {L : Addr}
theorem Led.cons_sub (hs : ∀ q ∈ Led a si ob ol ord otd opd osi olo oou tl, q ∈ all) (hx : x ∈ all) : ∀ q ∈ Led a si ob ol ord otd opd osi olo oou (x :: tl), q ∈ all := by
  intro q hq
  rcases List.mem_append.mp (show q ∈ [_, _, _, _, _, _, _, _, _, _, _] ++ x :: tl from hq) with h | h
  · exact hs q (List.mem_append.mpr (Or.inl h) : q ∈ [_, _, _, _, _, _, _, _, _, _, _] ++ tl)
  · rcases List.mem_cons.mp h with rfl | h
    · exact hx
    · exact hs q (List.mem_append.mpr (Or.inr h) : q ∈ [_, _, _, _, _, _, _, _, _, _, _] ++ tl)
theorem Led.turn_sub {o' : Obj} (hs : ∀ q ∈ Led a si ob ol ord otd opd osi olo oou tl, q ∈ all) (hx : (si', o') ∈ all) : ∀ q ∈ Led a si' ob ol ord otd opd o' olo oou tl, q ∈ all := by
  intro q hq
  rcases List.mem_append.mp (show q ∈ [_, _, _, _, _, _, _, _] ++ (si', o') :: (a.lo, olo) :: (a.ou, oou) :: tl from hq) with h | h
  · exact hs q (List.mem_append.mpr (Or.inl h) : q ∈ [_, _, _, _, _, _, _, _] ++ (si, osi) :: (a.lo, olo) :: (a.ou, oou) :: tl)
  · rcases List.mem_cons.mp h with rfl | h
    · exact hx
    · exact hs q (List.mem_append.mpr (Or.inr (List.Mem.tail _ h)) : q ∈ [_, _, _, _, _, _, _, _] ++ (si, osi) :: (a.lo, olo) :: (a.ou, oou) :: tl)
theorem neLB (D : Dis a si tl) : NeA a.l a.b := by
  intro e
  exact (List.nodup_cons.mp D).1 (by rw [← e]; exact List.Mem.head _)
theorem neRD (D : Dis a si tl) : NeA a.rd a.ra := by
  intro e
  exact (List.nodup_cons.mp (List.nodup_cons.mp (List.nodup_cons.mp D).2).2).1 (by rw [← e]; exact List.Mem.head _)
theorem neTD (D : Dis a si tl) : NeA a.td a.ta := by
  intro e
  exact (List.nodup_cons.mp (List.nodup_cons.mp (List.nodup_cons.mp (List.nodup_cons.mp (List.nodup_cons.mp D).2).2).2).2).1 (by rw [← e]; exact List.Mem.head _)
theorem nePD (D : Dis a si tl) : NeA a.pd a.pa := by
  intro e
  exact (List.nodup_cons.mp (List.nodup_cons.mp (List.nodup_cons.mp (List.nodup_cons.mp (List.nodup_cons.mp (List.nodup_cons.mp (List.nodup_cons.mp D).2).2).2).2).2).2).1 (by rw [← e]; exact List.Mem.head _)
theorem news_led (N : News h₀ L h all) (hx : x ∈ all) (hs : ∀ q ∈ Led a si ob ol ord otd opd osi olo oou tl, q ∈ all) : News h₀ L h (x :: Led a si ob ol ord otd opd osi olo oou tl) := by
  intro q hq
  rcases List.mem_cons.mp hq with rfl | hq
  · exact N _ hx
  · exact N _ (hs q hq)
end
noncomputable abbrev pDat (q : Int × Int) : Dat := Dat.tuple [.int q.1, .int q.2]
theorem prs_dat {led : List (Addr × Obj)} {vs : List Value} {ps : List (Int × Int)} (h : Prs led vs ps) : DatAll led vs (ps.map pDat) := by
  induction h with
  | nil => exact .nil
  | cons hm _ ih => exact .cons (DatIn.tuple hm (.cons (.int _ _) (.cons (.int _ _) .nil))) ih
theorem pDat_ok (ps : List (Int × Int)) : ∀ d ∈ ps.map pDat, kqdOk 8 d = true := by
  intro d hd
  obtain ⟨q, _, rfl⟩ := List.mem_map.mp hd
  simp [kqdOk]
theorem ne_nil_prs {prog : Program} {w : World} {A : Around} {E : Value → Shared → Prop} {s : Shared} {h₀ : Heap} {L x D : Addr} {news tl : List (Addr × Obj)} {vs : List Value} {ps : List (Int × Int)} {n k : Nat} {Q : Value → Shared → Prop}
    (N : News h₀ L s.heap news) (hx : (x, listOf vs.toArray n) ∈ news) (hD : (D, listOf [].toArray k) ∈ news) (hs : ∀ q ∈ tl, q ∈ news) (hp : Prs tl vs ps) (hu : A.units + 64 < cLine) (h : ∀ r, (r = true ↔ ps ≠ []) → Q (.bool r) s) :
    wpAny (model prog w) A (compareOp .NotEq (.ref x) (.ref D)) Q E s := by
  refine kqd_ne N hx rfl rfl (prs_dat hp) hs hD rfl rfl (n₂ := []) .nil (fun _ h => (nomatch h)) (pDat_ok ps) (fun _ h => (nomatch h)) hu (h _ ?_)
  simp
theorem tups_cons {q : Addr × Obj} {tl : List (Addr × Obj)} (h : q.2.cls = .type "tuple") (ht : Tups tl) : Tups (q :: tl) := by
  intro p hp
  rcases List.mem_cons.mp hp with rfl | hp
  · exact h
  · exact ht p hp
theorem prsO_snoc {tl : List (Addr × Obj)} {y : Addr × Obj} {vs : List Value} {ps : List (Int × Int)} {o : Obj} {a : Addr} {x z : Int} {tx tz : Tok} {n k : Nat} (h : Prs tl vs ps) (he : o = listOf (vs.toArray.push (.ref a)) k) (hm : (a, tupO x z tx tz n) ∈ y :: tl) : PrsO (y :: tl) (ps ++ [(x, z)]) o :=
  ⟨vs ++ [.ref a], k, (h.mono (fun _ h => .tail _ h)).snoc hm, by rw [he, List.push_toArray]⟩

/-- the numbers between two packets -/
structure Nums (σ : Pl) (i : Nat) (le s1 S : Int) (out : List (Int × Int)) : Prop where
  c1 : 0 ≤ S
  c2 : 0 ≤ le
  c3 : le = σ.le - S
  c4 : s1 = σ.s1 + S
  c5 : out.length ≤ σ.out.length + i
  c6 : ∀ z ∈ out, z ∈ σ.out ∨ (0 ≤ z.1 ∧ z.1 ≤ 1200)
/-- what stands between two packets of a turn -/
inductive JL (w : World) (a : Ad) (way Bu : Int) (I : Addr) (o : Obj) (tw tb tg tf tz : Tok) (g form size : Int) (σ : Pl) (si : Addr) (i : Nat) (m : Str → Option Value) : List (Addr × Obj) → Prop
  | mk {le fl s1 S : Int} {out : List (Int × Int)} {tn ts : Tok} {ob ol ord otd opd osi olo oou : Obj} {tl : List (Addr × Obj)} (c : Nums σ i le s1 S out) (hI : Off I a si tl) (H : Has m ((Str.ofString "now", .int σ.now tn) :: (Str.ofString "since", .ref si) :: (Str.ofString "gained", .int g tg) :: (Str.ofString "sent", .int S ts) :: (Str.ofString "form", .int form tf) :: (Str.ofString "size", .int size tz) :: fixN a way Bu tw tb)) (S' : St w a way Bu { σ with le := le, fl := fl, s1 := s1, out := out } si ob ol ord otd opd osi olo oou tl) : JL w a way Bu I o tw tb tg tf tz g form size σ si i m ((I, o) :: Led a si ob ol ord otd opd osi olo oou tl)
theorem JL.elim {w : World} {a : Ad} {way Bu : Int} {I : Addr} {o : Obj} {tw tb tg tf tz : Tok} {g form size : Int} {σ : Pl} {si : Addr} {i : Nat} {m : Str → Option Value} {nx : List (Addr × Obj)} {C : Prop} (h : JL w a way Bu I o tw tb tg tf tz g form size σ si i m nx)
    (k : ∀ le fl s1 S out tn ts ob ol ord otd opd osi olo oou tl, Nums σ i le s1 S out → Off I a si tl → Has m ((Str.ofString "now", .int σ.now tn) :: (Str.ofString "since", .ref si) :: (Str.ofString "gained", .int g tg) :: (Str.ofString "sent", .int S ts) :: (Str.ofString "form", .int form tf) :: (Str.ofString "size", .int size tz) :: fixN a way Bu tw tb) → St w a way Bu { σ with le := le, fl := fl, s1 := s1, out := out } si ob ol ord otd opd osi olo oou tl → nx = (I, o) :: Led a si ob ol ord otd opd osi olo oou tl → C) : C := by
  cases h with
  | mk c hI H S' => exact k _ _ _ _ _ _ _ _ _ _ _ _ _ _ _ _ c hI H S' rfl
theorem turnL {w : World} {a : Ad} {way Bu : Int} {I I2 : Addr} {o o2 : Obj} {tw tb tg tf tz : Tok} {g form size : Int} {σ : Pl} {si : Addr} {i : Nat} {h₀ : Heap} {L : Addr} {s : Shared} {Q : Flow → Shared → Prop} {h' : Heap} {tk : Nat} {m : Str → Option Value} {all : List (Addr × Obj)} {ob ol ord otd opd osi olo oou : Obj} {tl : List (Addr × Obj)}
    (le fl s1 S : Int) (out : List (Int × Int)) {tn ts : Tok} (F : Fr h₀ L h' m) (N : News h₀ L h' all) (c : Nums σ (i + 1) le s1 S out)
    (e2 : (I2, o2) ∈ all) (e1 : (I, o) ∈ all) (hs : ∀ q ∈ Led a si ob ol ord otd opd osi olo oou tl, q ∈ all) (hI : Off I a si tl) (hI2 : Off I2 a si tl) (hII : NeA I I2) (S' : St w a way Bu { σ with le := le, fl := fl, s1 := s1, out := out } si ob ol ord otd opd osi olo oou tl) (H : Has m ((Str.ofString "now", .int σ.now tn) :: (Str.ofString "since", .ref si) :: (Str.ofString "gained", .int g tg) :: (Str.ofString "sent", .int S ts) :: (Str.ofString "form", .int form tf) :: (Str.ofString "size", .int size tz) :: fixN a way Bu tw tb)) :
    TurnPost h₀ L (I2, o2) (JL w a way Bu I o tw tb tg tf tz g form size σ si (i + 1)) s Q .next { s with heap := h', toks := tk } := by
  refine ⟨h', tk, m, (I, o) :: Led a si ob ol ord otd opd osi olo oou tl, rfl, F, ?_, List.forall_mem_cons.mpr ⟨hII, hI2.all⟩, .mk c hI H S'⟩
  exact fun q hq => N q (List.forall_mem_cons.mpr ⟨e2, List.forall_mem_cons.mpr ⟨e1, hs⟩⟩ q hq)
def Bnd (C B Ph : Int) (ps : List (Int × Int)) : Prop := ∀ i x y, ps[i]? = some (x, y) → Ph ≤ B * C + sG (ps.drop (i + 1)) - C * (y + sS (ps.drop (i + 1)))
structure Inv (way Bu : Int) (i : Nat) (σ : Pl) : Prop where
  a1 : 0 ≤ σ.le
  a2 : σ.le ≤ Bu
  a3 : 0 ≤ σ.re
  a4 : σ.re < 4 * way
  a5 : (σ.le + σ.s1 - Bu) * (4 * way) + σ.re = σ.s0
  a6 : 12000 ≤ σ.win
  a7 : σ.win ≤ 12000 + 1200 * i
  a8 : 0 ≤ σ.k
  a9 : σ.k ≤ 2 + 3 * i
  a10 : σ.looks.length = i
  a11 : σ.out.length ≤ 3 * i
  a12 : ∀ z ∈ σ.out, 0 ≤ z.1 ∧ z.1 ≤ 1200
  a13 : Bnd (4 * way) Bu (σ.le * (4 * way) + σ.re) σ.looks
  a14 : Within (4 * way) Bu σ.looks
theorem fdiv_mod {Y C : Int} (hC : 0 < C) : Y.fdiv C * C + Y.fmod C = Y ∧ 0 ≤ Y.fmod C ∧ Y.fmod C < C := by
  refine ⟨?_, Int.fmod_nonneg_of_pos _ hC, Int.fmod_lt_of_pos _ hC⟩
  rw [Int.fdiv_eq_ediv_of_nonneg _ (by omega), Int.fmod_eq_emod_of_nonneg _ (by omega), Int.mul_comm]
  exact Int.mul_ediv_add_emod Y C
theorem fdiv_add {x Y C : Int} (hC : 0 < C) : (x * C + Y).fdiv C = x + Y.fdiv C := by
  rw [Int.fdiv_eq_ediv_of_nonneg _ (by omega), Int.fdiv_eq_ediv_of_nonneg _ (by omega), Int.add_comm, Int.add_mul_ediv_right _ _ (by omega), Int.add_comm]
theorem fdiv_nn {Y C : Int} (hC : 0 < C) (hY : 0 ≤ Y) : 0 ≤ Y.fdiv C := by
  rw [Int.fdiv_eq_ediv_of_nonneg _ (by omega)]
  exact Int.ediv_nonneg hY (by omega)
theorem plain_hC {way Bu : Int} {i : Nat} {σ : Pl} (hy : 1 ≤ way) (h : Inv way Bu i σ) : ∀ gap le' re', EarnP Bu σ.le σ.re σ.win way gap le' re' → le' = Bu ∨ le' = Bu + (σ.s0 + 5 * σ.win * gap).fdiv (4 * way) - σ.s1 := by
  have h5 := h.a5
  intro gap le' re' hE
  rcases hE with ⟨_, e, _⟩ | ⟨_, e, _⟩
  · exact .inl e
  · right
    have e2 : σ.s0 + 5 * σ.win * gap = (σ.le + σ.s1 - Bu) * (4 * way) + (σ.re + 5 * σ.win * gap) := by omega
    rw [e2, fdiv_add (by omega)]
    omega
theorem ln_pos {y : Int} (h : 1 ≤ y) : 0 < 4 * y := by omega
theorem ln_a {x y z m t g : Int} (h6 : x ≤ y + z) (d1 : z + m = t + g) (d2 : 0 ≤ m) : x + 0 ≤ y + t + g := by omega
theorem ln_c {A B D m r G s : Int} (h6 : A = B + D) (h5 : B + r = s) (d1 : D + m = r + G) : A + m = s + G := by omega
theorem ln_d {A B D m r G : Int} (h7 : A = B + D) (d1 : D + m = r + G) : A + m ≤ B + r + G := by omega
theorem ln_e {A X Z C m : Int} (h8 : X ≤ Z) (h9 : X = A + C) (d3 : m < C) : A + m ≤ Z := by omega
theorem ln_g {a : Int} : a + 0 - a = 0 := by omega
theorem ln_f {a b c d : Int} : a + b + c - d = a + c - d + b := by omega
/-- what earning leaves -/
theorem plain_earn {way Bu win gap le re s0 s1 le1 re1 s0' s1' : Int} (hy : 1 ≤ way) (hB : 0 ≤ Bu) (hw : 0 ≤ win) (hg : 0 ≤ gap) (h1 : 0 ≤ le) (h3 : 0 ≤ re) (h5 : (le + s1 - Bu) * (4 * way) + re = s0) (hE : EarnP Bu le re win way gap le1 re1)
    (dd : (le1 = Bu ∧ s0' = 0 ∧ s1' = 0) ∨ (le1 ≠ Bu ∧ s0' = s0 + 5 * win * gap ∧ s1' = s1)) :
    0 ≤ le1 ∧ le1 ≤ Bu ∧ 0 ≤ re1 ∧ re1 < 4 * way ∧ (le1 + s1' - Bu) * (4 * way) + re1 = s0' ∧ le1 * (4 * way) + re1 ≤ le * (4 * way) + re + 5 * win * gap ∧ le1 * (4 * way) + re1 ≤ Bu * (4 * way) := by
  have hG : 0 ≤ 5 * win * gap := Int.mul_nonneg (Int.mul_nonneg (by decide) hw) hg
  have hC : (0 : Int) < 4 * way := ln_pos hy
  obtain ⟨d1, d2, d3⟩ := fdiv_mod (Y := re + 5 * win * gap) hC
  have hd := fdiv_nn (Y := re + 5 * win * gap) hC (Int.add_nonneg h3 hG)
  rcases hE with ⟨e1, rfl, rfl⟩ | ⟨e1, rfl, rfl⟩
  · rcases dd with ⟨_, rfl, rfl⟩ | ⟨hn, _, _⟩
    · have h6 := Int.mul_le_mul_of_nonneg_right e1 (Int.le_of_lt hC)
      rw [Int.add_mul] at h6
      refine ⟨hB, Int.le_refl _, Int.le_refl _, hC, ?_, ln_a h6 d1 d2, Int.le_of_eq (Int.add_zero _)⟩
      rw [ln_g, Int.zero_mul]
      rfl
    · exact absurd rfl hn
  · rcases dd with ⟨hn, _, _⟩ | ⟨_, rfl, rfl⟩
    · exact absurd hn (Int.ne_of_lt e1)
    · have h8 := Int.mul_le_mul_of_nonneg_right (Int.add_one_le_of_lt e1) (Int.le_of_lt hC)
      refine ⟨Int.add_nonneg h1 hd, Int.le_of_lt e1, d2, d3, ln_c ?_ h5 d1, ln_d (Int.add_mul _ _ _) d1, ln_e h8 ?_ d3⟩
      · rw [← Int.add_mul, ln_f]
      · rw [Int.add_mul, Int.one_mul]
theorem sG_snoc (l : List (Int × Int)) (x y : Int) : sG (l ++ [(x, y)]) = sG l + x := by simp [sG]
theorem sS_snoc (l : List (Int × Int)) (x y : Int) : sS (l ++ [(x, y)]) = sS l + y := by simp [sS]
theorem bnd_step {C B Ph Ph2 G S : Int} {ps : List (Int × Int)} (h : Bnd C B Ph ps) (h1 : Ph2 ≤ Ph + G - S * C) (h2 : Ph2 ≤ B * C - S * C) : Bnd C B Ph2 (ps ++ [(G, S)]) := by
  intro i x y hi
  rcases Nat.lt_or_ge i ps.length with hl | hl
  · rw [List.getElem?_append_left hl] at hi
    have h3 := h i x y hi
    rw [List.drop_append_of_le_length (by omega), sG_snoc, sS_snoc]
    have h4 : C * (y + (sS (ps.drop (i + 1)) + S)) = C * (y + sS (ps.drop (i + 1))) + S * C := by rw [← Int.add_assoc, Int.mul_add, Int.mul_comm C S]
    omega
  · rw [List.getElem?_append_right hl] at hi
    have hz : i - ps.length = 0 := by
      have := (List.getElem?_eq_some_iff.mp hi).1
      simp only [List.length_cons, List.length_nil] at this
      omega
    rw [hz] at hi
    cases hi
    rw [List.drop_of_length_le (by simp only [List.length_append, List.length_cons, List.length_nil]; omega)]
    have h4 : C * (S + sS []) = S * C := by simp [sS, Int.mul_comm]
    rw [h4]
    have h5 : sG [] = 0 := rfl
    omega
theorem within_step {C B Ph2 G S : Int} {ps : List (Int × Int)} (h : Within C B ps) (hb : Bnd C B Ph2 (ps ++ [(G, S)])) (h0 : 0 ≤ Ph2) : Within C B (ps ++ [(G, S)]) := by
  intro i x y hi j
  have hbi := hb i x y hi
  have full : C * (y + sS ((ps ++ [(G, S)]).drop (i + 1)) - B) ≤ sG ((ps ++ [(G, S)]).drop (i + 1)) := by
    have h4 : C * (y + sS ((ps ++ [(G, S)]).drop (i + 1)) - B) = C * (y + sS ((ps ++ [(G, S)]).drop (i + 1))) - B * C := by rw [Int.mul_sub, Int.mul_comm C B]
    omega
  rcases Nat.lt_or_ge i ps.length with hl | hl
  · rw [List.getElem?_append_left hl] at hi
    rw [List.drop_append_of_le_length (by omega)] at full ⊢
    rcases Nat.lt_or_ge (ps.drop (i + 1)).length j with hj | hj
    · rw [List.take_of_length_le (by simp only [List.length_append, List.length_cons, List.length_nil]; omega)]
      exact full
    · rw [List.take_append_of_le_length hj]
      exact h i x y hi j
  · have hz : (ps ++ [(G, S)]).drop (i + 1) = [] := List.drop_of_length_le (by simp only [List.length_append, List.length_cons, List.length_nil]; omega)
    rw [hz] at full ⊢
    rw [List.take_nil]
    exact full
theorem win_step {win0 win2 fl0 fl2 : Int} {i : Nat} {out0 out2 : List (Int × Int)} (h6 : 12000 ≤ win0) (h7 : win0 ≤ 12000 + 1200 * i) (h11 : out0.length ≤ 3 * i) (h12 : ∀ z ∈ out0, 0 ≤ z.1 ∧ z.1 ≤ 1200)
    (d2 : (win2 = win0 ∧ fl2 = fl0 ∧ out2 = out0) ∨ ∃ z t, out0 = (z, t) :: out2 ∧ win2 = win0 + z ∧ fl2 = fl0 - z) : 12000 ≤ win2 ∧ win2 ≤ 12000 + 1200 * ((i + 1 : Nat) : Int) ∧ out2.length ≤ 3 * i ∧ ∀ z ∈ out2, 0 ≤ z.1 ∧ z.1 ≤ 1200 := by
  rcases d2 with ⟨rfl, _, rfl⟩ | ⟨z, t, rfl, rfl, _⟩
  · exact ⟨h6, by omega, h11, h12⟩
  · have hz := h12 (z, t) (.head _)
    exact ⟨Int.le_trans h6 (Int.le_add_of_nonneg_right hz.1), by omega, Nat.le_of_succ_le h11, fun y hy => h12 y (.tail _ hy)⟩
theorem ln_h {le3 le1 s13 s11 S B : Int} (c3 : le3 = le1 - S) (c4 : s13 = s11 + S) : le3 + s13 - B = le1 + s11 - B := by omega
theorem ln_i {A B R r S P G : Int} (p1 : A = B - S) (q6 : B + r ≤ P + R + G) : A + r ≤ P + R + G - S := by omega
theorem ln_j {A B r S Z : Int} (p1 : A = B - S) (q7 : B + r ≤ Z) : A + r ≤ Z - S := by omega
theorem ln_k {k k1 k2 : Int} {i : Nat} (h8 : 0 ≤ k) (h9 : k ≤ 2 + 3 * i) (e1 : k1 = k + 2) (e2 : k2 = k1 + 1) : 0 ≤ k2 ∧ k2 ≤ 2 + 3 * ((i + 1 : Nat) : Int) := by omega
theorem ln_l {a b i : Nat} (h : a ≤ b + 3) (h2 : b ≤ 3 * i) : a ≤ 3 * (i + 1) := by omega
theorem ln_m {a b S : Int} (h : a = b - S) (h2 : 0 ≤ S) : a ≤ b := by omega
theorem plain_step {way Bu : Int} {i : Nat} {σ : Pl} (hy : 1 ≤ way) (hB : 0 ≤ Bu) (h : Inv way Bu i σ) {gap now1 le1 re1 s01 s11 k1 win2 fl2 k2 le3 fl3 s13 S : Int} {out2 out3 : List (Int × Int)} (hg : 1 ≤ gap) (e1 : k1 = σ.k + 2) (hE : EarnP Bu σ.le σ.re σ.win way gap le1 re1)
    (dd : (le1 = Bu ∧ s01 = 0 ∧ s11 = 0) ∨ (le1 ≠ Bu ∧ s01 = σ.s0 + 5 * σ.win * gap ∧ s11 = σ.s1)) (e2 : k2 = k1 + 1) (d2 : (win2 = σ.win ∧ fl2 = σ.fl ∧ out2 = σ.out) ∨ ∃ z t, σ.out = (z, t) :: out2 ∧ win2 = σ.win + z ∧ fl2 = σ.fl - z)
    (c1 : 0 ≤ S) (c2 : 0 ≤ le3) (c3 : le3 = le1 - S) (c4 : s13 = s11 + S) (c5 : out3.length ≤ out2.length + 3) (c6 : ∀ z ∈ out3, z ∈ out2 ∨ (0 ≤ z.1 ∧ z.1 ≤ 1200)) :
    Inv way Bu (i + 1) { now := now1, le := le3, re := re1, win := win2, fl := fl3, s0 := s01, s1 := s13, k := k2, looks := σ.looks ++ [(5 * σ.win * gap, S)], out := out3 } := by
  obtain ⟨q1, q2, q3, q4, q5, q6, q7⟩ := plain_earn hy hB (Int.le_trans (by decide) h.a6) (Int.le_trans (by decide) hg) h.a1 h.a3 h.a5 hE dd
  obtain ⟨w2, w3, w4, w5⟩ := win_step h.a6 h.a7 h.a11 h.a12 d2
  have p1 : le3 * (4 * way) = le1 * (4 * way) - S * (4 * way) := by rw [c3, Int.sub_mul]
  have p2 : (0 : Int) ≤ le3 * (4 * way) := Int.mul_nonneg c2 (Int.le_of_lt (ln_pos hy))
  have hb := bnd_step (G := 5 * σ.win * gap) (S := S) (Ph2 := le3 * (4 * way) + re1) h.a13 (ln_i p1 q6) (ln_j p1 q7)
  have hk := ln_k h.a8 h.a9 e1 e2
  refine ⟨c2, Int.le_trans (ln_m c3 c1) q2, q3, q4, ?_, w2, w3, hk.1, hk.2, ?_, ln_l c5 w4, fun z hz => ?_, hb, within_step h.a14 hb (Int.add_nonneg p2 q3)⟩
  · dsimp only
    rw [ln_h c3 c4]
    exact q5
  · dsimp only
    rw [List.length_append, h.a10]
    rfl
  · rcases c6 z hz with hz | hz
    · exact w5 z hz
    · exact hz
theorem plain_start {way Bu : Int} (hy : 1 ≤ way) (hB : 0 ≤ Bu) (fl now k : Int) (hk0 : 0 ≤ k) (hk1 : k ≤ 2) : Inv way Bu 0 { now := now, le := Bu, re := 0, win := 12000, fl := fl, s0 := 0, s1 := 0, k := k, looks := [], out := [] } := by
  refine ⟨hB, Int.le_refl _, Int.le_refl _, by dsimp only; omega, ?_, Int.le_refl _, by dsimp only; omega, hk0, by dsimp only; omega, rfl, Nat.zero_le _, by intro z hz; simp at hz, fun i x y hi => ?_, fun i x y hi => ?_⟩
  · dsimp only
    rw [show Bu + 0 - Bu = 0 by omega, Int.zero_mul]
    first | rfl | done
  · simp at hi
  · simp at hi
section
variable {prog : Program} {w : World} {A : Around} {E : Value → Shared → Prop} {s : Shared} {h₀ : Heap} {L D : Addr} {m : Str → Option Value} {news news' : List (Addr × Obj)} {n : Nat}
theorem my_two {value slice : PySem.Expr} {x y k : Int} {tx ty u : Tok} {Q : Value → Shared → Prop} (N : News h₀ L s.heap news) (hm : (D, listOf [.int x tx, .int y ty].toArray n) ∈ news) (h0 : 0 ≤ k) (h1 : k < 2) (h : ∀ v t, (v = x ∨ v = y) → Q (.int v t) s)
    (hs : subscripted slice false (.ref D) (.int k u) = operate [.ref D, .int k u] (getItem (.ref D) (.int k u))) :
    wpAny (model prog w) A (subscriptTail value slice (.ref D) (.int k u)) Q E s := by
  have hk : k = 0 ∨ k = 1 := by omega
  rcases hk with rfl | rfl
  · exact tail_any (News.isList N hm).typeIs slot_list_getitem.lookup (wpAny_getItem_list (News.isList N hm) (by omega) (by omega) (by rfl) (h x tx (.inl rfl))) hs
  · exact tail_any (News.isList N hm).typeIs slot_list_getitem.lookup (wpAny_getItem_list (News.isList N hm) (by omega) (by omega) (by rfl) (h y ty (.inr rfl))) hs
end


theorem segA {w : World} {p : Program} {loose : List Str} {mean : ExcName → Option Value} {mg mb : Str → Option Value}
    {dp un : Nat} {gd : Option (List Code)} {fa : Addr} {ccd : Value} {outer : List Env} {A₀ : Around} {base h₀ : Heap} {L : Addr} {s : Shared} {Q : Flow → Shared → Prop} {E : Value → Shared → Prop}
    (B : Below A₀ base outer h₀) (X : (hd.heap_39 w.params).In h₀) (T : Top p loose mean mg mb h₀) (hdp : dp + 12 < recursionLimit) (hun : un + 400 < cLine)
    {a : Ad} {way Bu : Int} (hy0 : 4000 ≤ way) (hy1 : way ≤ 23000) (hb0 : 2400 ≤ Bu) (hb1 : Bu ≤ 6000)
    {σ : Pl} {si I : Addr} {o : Obj} {tn tw tb : Tok} {u : Str → Option Value} {ob ol ord otd opd osi olo oou : Obj} {tl : List (Addr × Obj)} (hI : Off I a si tl) (S : St w a way Bu σ si ob ol ord otd opd osi olo oou tl)
    (F : Fr h₀ L s.heap (over ((Str.ofString "now", .int σ.now tn) :: (Str.ofString "since", .ref si) :: fixN a way Bu tw tb) u)) (N : News h₀ L s.heap ((I, o) :: Led a si ob ol ord otd opd osi olo oou tl))
    (hw0 : 12000 ≤ σ.win) (hw1 : σ.win ≤ 50000) (hk0 : 0 ≤ σ.k) (hk1 : σ.k ≤ 60)
    (hC : ∀ gap le' re', EarnP Bu σ.le σ.re σ.win way gap le' re' → le' = Bu ∨ le' = Bu + (σ.s0 + 5 * σ.win * gap).fdiv (4 * way) - σ.s1)
    (kk : ∀ {gap now le re s0 s1 k si' tg tz tn' ob' ol' opd' osi' h' tk m'}, 1 ≤ gap → now = σ.now + gap → k = σ.k + 2 → EarnP Bu σ.le σ.re σ.win way gap le re →
      ((le = Bu ∧ s0 = 0 ∧ s1 = 0) ∨ (le ≠ Bu ∧ s0 = σ.s0 + 5 * σ.win * gap ∧ s1 = σ.s1)) → Off I a si' tl → St w a way Bu { σ with now := now, le := le, re := re, s0 := s0, s1 := s1, k := k } si' ob' ol' ord otd opd' osi' olo oou tl → Fr h₀ L h' m' → News h₀ L h' ((I, o) :: Led a si' ob' ol' ord otd opd' osi' olo oou tl) →
      Has m' ((Str.ofString "now", .int now tn') :: (Str.ofString "since", .ref si') :: (Str.ofString "gained", .int (5 * σ.win * gap) tg) :: (Str.ofString "sent", .int 0 tz) :: fixN a way Bu tw tb) → wpAny (model PP w) (ktrTop dp un gd (Str.ofString "law") lawScope L fa ccd [] outer) (execs (turnBody.drop 6) (envOf (Str.ofString "law") lawScope L fa ccd)) Q E { s with heap := h', toks := tk }) :
    wpAny (model PP w) (ktrTop dp un gd (Str.ofString "law") lawScope L fa ccd [] outer) (execs turnBody (envOf (Str.ofString "law") lawScope L fa ccd)) Q E s := by
  w_on
  (with_unfolding_all show wpAny _ _ (execs (_ :: _) (envOf _ (Scope.mk _ _ _ _ _) _ _ _)) _ _ _)
  obtain ⟨D, p1, p2, p3, p4, p5, ⟨ts0, ts1, ns⟩, p7, p8, p9⟩ := S
  repeat' (first | ((with_reducible show wpAny _ _ (call (.ref 231) _) _ _ _); refine Halt.out ?_) | (k_unfold; (try dsimp only)) | (k_end; wrow_close) | (walk1 <;> try dsimp only) | (dsimp only; walk1 <;> try dsimp only) | (leave1; walk_say "STEP leave1"; try dsimp only) | fail "no step")
  refine Halt.mk ?_
  k_dflt (refine' take_s ?B ?F ?X ?T ?hk ?hdp ?hun ?N ?mp ?md ?ne ?pb ?pl ?k0 ?k1 ?w0 ?_)
  (case B => k_asm)
  (case F => k_asm)
  (case X => k_asm)
  (case T => k_asm)
  (case hk => first | exact rfl | assumption)
  (case hdp => ktr_room)
  (case hun => ktr_units)
  (case N => k_asm)
  (case mp => k_dflt k_mem)
  (case pb => exact p1)
  (case md => k_dflt k_mem)
  (case pl => exact p2)
  (case ne => exact neLB D)
  (case k0 => omega)
  (case k1 => omega)
  (case w0 => decide)
  intro r1 t1 ob1 ol1 h' tk1 r1a r1b pb1 pl1 F' H
  have N' := H _ _ (by k_upd) (by k_upd)
  clear H
  try k_sweep
  repeat' (first | ((with_reducible show wpAny _ _ (call (.ref 231) _) _ _ _); refine Halt.out ?_) | (k_unfold; (try dsimp only)) | (k_end; wrow_close) | (walk1 <;> try dsimp only) | (dsimp only; walk1 <;> try dsimp only) | (leave1; walk_say "STEP leave1"; try dsimp only) | fail "no step")
  refine Halt.mk ?_
  k_dflt (refine' take_s ?B ?F ?X ?T ?hk ?hdp ?hun ?N ?mp ?md ?ne ?pb ?pl ?k0 ?k1 ?w0 ?_)
  (case B => k_asm)
  (case F => k_asm)
  (case X => k_asm)
  (case T => k_asm)
  (case hk => first | exact rfl | assumption)
  (case hdp => ktr_room)
  (case hun => ktr_units)
  (case N => k_asm)
  (case mp => k_dflt k_mem)
  (case pb => exact pb1)
  (case md => k_dflt k_mem)
  (case pl => exact pl1)
  (case ne => exact neLB D)
  (case k0 => omega)
  (case k1 => omega)
  (case w0 => decide)
  intro r2 t2 ob2 ol2 h' tk2 r2a r2b pb2 pl2 F' H
  have N' := H _ _ (by k_upd) (by k_upd)
  clear H
  try k_sweep
  repeat' (first | ((with_reducible show wpAny _ _ (exec (Stmt.Assign [Expr.Tuple [Expr.Name _ _, Expr.Name _ _] _ _] _ _) _) _ _ _); k_dflt (refine' tup2 ?_ ?hs ?hw; (case hs => with_unfolding_all rfl); (case hw => with_unfolding_all rfl))) | ((with_reducible show wpAny _ _ (subscriptTail (PySem.Expr.List _ _) _ _ _) _ _ _); k_dflt (refine' my_two ?yN ?ym ?yh0 ?yh1 ?_ ?yhs; (case yN => k_asm); (case ym => k_mem); (case yh0 => omega); (case yh1 => omega); (case yhs => with_unfolding_all rfl)); intro g9 tg9 hg9; have hg1 : 1 ≤ g9 ∧ g9 ≤ 37 := (by omega); have hg2 : 0 ≤ r1 * g9 := Int.mul_nonneg r1a (by omega)) | ((with_reducible show wpAny _ _ (call (.ref 196) _) _ _ _); refine Halt.out ?_) | ((with_reducible show wpAny _ _ (getAttr (.ref _) (Str.ofString "window") _) _ _ _); k_dflt (refine' winN ?yB ?yF ?yX ?yT ?yhk ?yhdp ?yhun ?yN ?ymp ?ymd ?yp ?_; (case yB => k_asm); (case yF => k_asm); (case yX => k_asm); (case yT => k_asm); (case yhk => first | exact rfl | assumption); (case yhdp => ktr_room); (case yhun => ktr_units); (case yN => k_asm); (case ymp => k_mem); (case ymd => k_mem); (case yp => with_reducible assumption)); intro ta9) | ((with_reducible show wpAny _ _ (getMethod (.ref _) _ _) _ _ _); k_dflt (refine' methPac ?yF ?yX ?yN ?ymp ?ymd ?yp ?yhf ?yhg ?yhi ?yht ?_; (case yF => k_asm); (case yX => k_asm); (case yN => k_asm); (case ymp => k_mem); (case ymd => k_mem); (case yp => with_reducible assumption); (case yhf => decide +kernel); (case yhi => k_is); (case yhg => k_is); (case yht => k_is))) | ((with_reducible show wpAny _ _ (getMethod (.ref _) _ _) _ _ _); k_dflt (refine' methRtt ?yF ?yX ?yN ?ymp ?ymd ?yp ?yhf ?yhg ?yhi ?yht ?_; (case yF => k_asm); (case yX => k_asm); (case yN => k_asm); (case ymp => k_mem); (case ymd => k_mem); (case yp => with_reducible assumption); (case yhf => decide +kernel); (case yhi => k_is); (case yhg => k_is); (case yht => k_is))) | (k_unfold; (try dsimp only)) | (k_end; wrow_close) | (walk1 <;> try dsimp only) | (dsimp only; walk1 <;> try dsimp only) | (leave1; walk_say "STEP leave1"; try dsimp only) | fail "no step")
  refine Halt.mk ?_
  k_dflt (refine' smooth_s ?B ?F ?X ?T ?hk ?hdp ?hun ?N ?mp ?md ?yp ?_)
  (case B => k_asm)
  (case F => k_asm)
  (case X => k_asm)
  (case T => k_asm)
  (case hk => first | exact rfl | assumption)
  (case hdp => ktr_room)
  (case hun => ktr_units)
  (case N => k_asm)
  (case mp => k_dflt k_mem)
  (case md => k_dflt k_mem)
  (case yp => with_reducible assumption)
  intro t3 h' tk3 F' N'
  try k_sweep
  repeat' (first | ((with_reducible show wpAny _ _ (call (.ref 42) _) _ _ _); refine Halt.out ?_) | (k_unfold; (try dsimp only)) | (k_end; wrow_close) | (walk1 <;> try dsimp only) | (dsimp only; walk1 <;> try dsimp only) | (leave1; walk_say "STEP leave1"; try dsimp only) | fail "no step")
  refine Halt.mk ?_
  k_dflt (refine' earn_s ?B ?F ?X ?T ?hk ?hdp ?hun ?N ?mp ?md ?yp ?ne ?a1 ?a2 ?a3 ?a4 ?_)
  (case B => k_asm)
  (case F => k_asm)
  (case X => k_asm)
  (case T => k_asm)
  (case hk => first | exact rfl | assumption)
  (case hdp => ktr_room)
  (case hun => ktr_units)
  (case N => k_asm)
  (case mp => k_dflt k_mem)
  (case md => k_dflt k_mem)
  (case yp => with_reducible assumption)
  (case ne => exact nePD D)
  (case a1 => omega)
  (case a2 => omega)
  (case a3 => omega)
  (case a4 => omega)
  intro le4 re4 opd4 h' tk4 hE4 pd4 F' H
  have N' := H _ (by k_upd)
  clear H
  try k_sweep
  have e4 : σ.now + (1 + r1 * g9) - σ.now = 1 + r1 * g9 := by omega
  rw [e4] at hE4
  have hc4 := hC _ _ _ hE4
  repeat' (first | (with_reducible refine' halt_assign (x := Str.ofString "form") ⟨⟩ ?_) | ((with_reducible show wpAny _ _ (getAttr (.ref _) (Str.ofString "left") _) _ _ _); k_dflt (refine' leftP ?yB ?yF ?yX ?yT ?yhk ?yhdp ?yhun ?yN ?ymp ?ymd ?yp ?_; (case yB => k_asm); (case yF => k_asm); (case yX => k_asm); (case yT => k_asm); (case yhk => first | exact rfl | assumption); (case yhdp => ktr_room); (case yhun => ktr_units); (case yN => k_asm); (case ymp => k_mem); (case ymd => k_mem); (case yp => with_reducible assumption)); intro ta9) | ((with_reducible show wpAny _ _ (subscriptTail _ _ (.ref _) (.int 0 _)) _ _ _); k_dflt (refine' sin0 ?yN ?ym ?_ ?yhs; (case yN => k_asm); (case ym => k_mem); (case yhs => with_unfolding_all rfl))) | ((with_reducible show wpAny _ _ (subscriptTail _ _ (.ref _) (.int 1 _)) _ _ _); k_dflt (refine' sin1 ?yN ?ym ?_ ?yhs; (case yN => k_asm); (case ym => k_mem); (case yhs => with_unfolding_all rfl))) | (k_unfold; (try dsimp only)) | (k_end; wrow_close) | (walk1 <;> try dsimp only) | (dsimp only; walk1 <;> try dsimp only) | (leave1; walk_say "STEP leave1"; try dsimp only) | fail "no step")
  · skip
    refine Halt.mk ?_
    (with_unfolding_all refine' kk ?gg ?e1 ?e2 ?ee ?dd ?off ?st ?F ?N ?H)
    case F => k_asm
    case H => exact ⟨rfl, rfl, rfl, rfl, rfl, rfl, rfl, rfl, rfl, rfl, rfl, rfl, trivial⟩
    case N => exact news_led (by k_asm) (by k_dflt k_mem) (Led.turn_sub (o' := _) (fun q hq => by (repeat (first | exact hq | refine List.mem_cons_of_mem _ ?_))) (by k_dflt k_mem))
    case st => exact ⟨Dis.turn D (off_new (by assumption) (fun q hq => by (repeat (first | exact hq | refine List.mem_cons_of_mem _ ?_)))), pb2, pl2, p3, p4, pd4, (.mk _ _ _), p7, p8, p9⟩
    case off => exact Off.turn hI (by k_ne)
    case ee => exact hE4
    case gg => omega
    case e1 => rfl
    case e2 => omega
    case dd => exact Or.inl ⟨by assumption, rfl, rfl⟩
  · exfalso
    omega
  · skip
    refine Halt.mk ?_
    (with_unfolding_all refine' kk (si' := si) ?gg ?e1 ?e2 ?ee ?dd ?off ?st ?F ?N ?H)
    case F => k_asm
    case H => exact ⟨rfl, rfl, rfl, rfl, rfl, rfl, rfl, rfl, rfl, rfl, rfl, rfl, trivial⟩
    case N => exact news_led (by k_asm) (by k_dflt k_mem) (fun q hq => by (repeat (first | exact hq | refine List.mem_cons_of_mem _ ?_)))
    case st => exact ⟨D, pb2, pl2, p3, p4, pd4, (.mk _ _ _), p7, p8, p9⟩
    case off => exact hI
    case ee => exact hE4
    case gg => omega
    case e1 => rfl
    case e2 => omega
    case dd => exact Or.inr ⟨by assumption, rfl, rfl⟩
theorem segC {w : World} {p : Program} {loose : List Str} {mean : ExcName → Option Value} {mg mb : Str → Option Value}
    {dp un : Nat} {gd : Option (List Code)} {fa : Addr} {ccd : Value} {outer : List Env} {A₀ : Around} {base h₀ : Heap} {L : Addr} {s : Shared} {Q : Flow → Shared → Prop} {E : Value → Shared → Prop}
    (B : Below A₀ base outer h₀) (X : (hd.heap_39 w.params).In h₀) (T : Top p loose mean mg mb h₀) (hdp : dp + 12 < recursionLimit) (hun : un + 400 < cLine)
    {a : Ad} {way Bu : Int} (hy0 : 4000 ≤ way) (hy1 : way ≤ 23000) (hb0 : 2400 ≤ Bu) (hb1 : Bu ≤ 6000)
    {σ : Pl} {si I : Addr} {o : Obj} {tn tw tb tg tz : Tok} {g : Int} {u : Str → Option Value} {ob ol ord otd opd osi olo oou : Obj} {tl : List (Addr × Obj)} (hI : Off I a si tl) (S : St w a way Bu σ si ob ol ord otd opd osi olo oou tl)
    (F : Fr h₀ L s.heap (over ((Str.ofString "now", .int σ.now tn) :: (Str.ofString "since", .ref si) :: (Str.ofString "gained", .int g tg) :: (Str.ofString "sent", .int 0 tz) :: fixN a way Bu tw tb) u)) (N : News h₀ L s.heap ((I, o) :: Led a si ob ol ord otd opd osi olo oou tl))
    (hk0 : 0 ≤ σ.k) (hk1 : σ.k ≤ 60) (hol : σ.out.length ≤ 100)
    (kk : ∀ {form win fl k out tf tn' ob' ol' ord' otd' oou' h' tk m'}, 0 ≤ form → form < 5 → k = σ.k + 1 → ((win = σ.win ∧ fl = σ.fl ∧ out = σ.out) ∨ ∃ z t, σ.out = (z, t) :: out ∧ win = σ.win + z ∧ fl = σ.fl - z) →
      St w a way Bu { σ with win := win, fl := fl, k := k, out := out } si ob' ol' ord' otd' opd osi olo oou' tl → Fr h₀ L h' m' → News h₀ L h' ((I, o) :: Led a si ob' ol' ord' otd' opd osi olo oou' tl) →
      Has m' ((Str.ofString "now", .int σ.now tn') :: (Str.ofString "since", .ref si) :: (Str.ofString "gained", .int g tg) :: (Str.ofString "sent", .int 0 tz) :: (Str.ofString "form", .int form tf) :: fixN a way Bu tw tb) → wpAny (model PP w) (ktrTop dp un gd (Str.ofString "law") lawScope L fa ccd [] outer) (execs (turnBody.drop 8) (envOf (Str.ofString "law") lawScope L fa ccd)) Q E { s with heap := h', toks := tk }) :
    wpAny (model PP w) (ktrTop dp un gd (Str.ofString "law") lawScope L fa ccd [] outer) (execs (turnBody.drop 6) (envOf (Str.ofString "law") lawScope L fa ccd)) Q E s := by
  w_on
  (with_unfolding_all show wpAny _ _ (execs (_ :: _) (envOf _ (Scope.mk _ _ _ _ _) _ _ _)) _ _ _)
  obtain ⟨D, p1, p2, p3, p4, p5, p6, p7, ⟨ovs, nou, hop, rfl⟩, p9⟩ := S
  repeat' (first | ((with_reducible show wpAny _ _ (call (.ref 231) _) _ _ _); refine Halt.out ?_) | (k_unfold; (try dsimp only)) | (k_end; wrow_close) | (walk1 <;> try dsimp only) | (dsimp only; walk1 <;> try dsimp only) | (leave1; walk_say "STEP leave1"; try dsimp only) | fail "no step")
  refine Halt.mk ?_
  k_dflt (refine' take_s ?B ?F ?X ?T ?hk ?hdp ?hun ?N ?mp ?md ?ne ?pb ?pl ?k0 ?k1 ?w0 ?_)
  (case B => k_asm)
  (case F => k_asm)
  (case X => k_asm)
  (case T => k_asm)
  (case hk => first | exact rfl | assumption)
  (case hdp => ktr_room)
  (case hun => ktr_units)
  (case N => k_asm)
  (case mp => k_dflt k_mem)
  (case pb => exact p1)
  (case md => k_dflt k_mem)
  (case pl => exact p2)
  (case ne => exact neLB D)
  (case k0 => omega)
  (case k1 => omega)
  (case w0 => decide)
  intro r1 t1 ob1 ol1 h' tk1 r1a r1b pb1 pl1 F' H
  have N' := H _ _ (by k_upd) (by k_upd)
  clear H
  try k_sweep
  repeat' (first | ((with_reducible show wpAny _ _ (compareOp CmpOp.NotEq (Value.ref _) (Value.ref _)) _ _ _); refine Halt.out ?_) | (with_reducible refine' halt_assign (x := Str.ofString "size") ⟨⟩ ?_) | (k_unfold; (try dsimp only)) | (k_end; wrow_close) | (walk1 <;> try dsimp only) | (dsimp only; walk1 <;> try dsimp only) | (leave1; walk_say "STEP leave1"; try dsimp only) | fail "no step")
  · refine Halt.mk ?_
    k_dflt (refine' ne_nil_prs (tl := tl) ?N ?hx ?hD ?hs hop ?hu ?_)
    (case N => k_asm)
    (case hx => k_dflt k_mem)
    (case hD => k_dflt k_mem)
    (case hs => exact (fun q hq => by (repeat (first | exact Led.mem_tl hq | refine List.mem_cons_of_mem _ ?_))))
    (case hu => ktr_units)
    intro r hr
    rcases ho : σ.out with _ | ⟨⟨z, t⟩, out'⟩
    · have hr' : r = false := by
        cases r with
        | false => rfl
        | true => exact absurd ho (hr.mp rfl)
      subst hr'
      repeat' (first | (with_reducible refine' halt_assign (x := Str.ofString "size") ⟨⟩ ?_) | (k_unfold; (try dsimp only)) | (k_end; wrow_close) | (walk1 <;> try dsimp only) | (dsimp only; walk1 <;> try dsimp only) | (leave1; walk_say "STEP leave1"; try dsimp only) | fail "no step")
      refine Halt.mk ?_
      (with_unfolding_all refine' kk ?f0 ?f1 ?e2 ?dd ?st ?F ?N ?H)
      case F => k_asm
      case H => exact ⟨rfl, rfl, rfl, rfl, rfl, rfl, rfl, rfl, rfl, rfl, rfl, rfl, rfl, trivial⟩
      case N => exact news_led (by k_asm) (by k_dflt k_mem) (fun q hq => by (repeat (first | exact hq | refine List.mem_cons_of_mem _ ?_)))
      case st => exact ⟨D, pb1, pl1, p3, p4, p5, p6, p7, ⟨_, _, hop, rfl⟩, p9⟩
      case f0 => exact r1a
      case f1 => exact r1b
      case e2 => rfl
      case dd => exact Or.inl ⟨rfl, rfl, rfl⟩
    · have hr' : r = true := hr.mpr (by rw [ho]; simp)
      subst hr'
      rcases ovs with _ | ⟨v, ovs'⟩
      · exact absurd hop.nil_inv (by rw [ho]; simp)
      · have hop2 := hop
        rw [ho] at hop2
        refine hop2.cons_k ?_
        intro a2 tx2 ty2 n2' e2 hmem2 hop'
        subst e2
        have hz9 : ovs'.length < 1000 := by
          have := hop'.len
          rw [ho] at hol
          simp only [List.length_cons] at hol
          omega
        repeat' (first | ((with_reducible show wpAny _ _ (call (Value.builtin "list.pop") _) _ _ _); k_dflt (refine' my_pop0 ?yF ?yN ?yU ?yz ?_; (case yF => k_asm); (case yN => k_asm); (case yU => k_upd); (case yz => assumption); k_whole); intro h' F' N') | ((with_reducible show wpAny _ _ (getMethod (.ref _) _ _) _ _ _); k_dflt (refine' methRtt ?yF ?yX ?yN ?ymp ?ymd ?yp ?yhf ?yhg ?yhi ?yht ?_; (case yF => k_asm); (case yX => k_asm); (case yN => k_asm); (case ymp => k_mem); (case ymd => k_mem); (case yp => with_reducible assumption); (case yhf => decide +kernel); (case yhi => k_is); (case yhg => k_is); (case yht => k_is))) | ((with_reducible show wpAny _ _ (getMethod (.ref _) _ _) _ _ _); k_dflt (refine' methRen ?yF ?yX ?yN ?ymp ?ymd ?yp ?yhf ?yhg ?yhi ?yht ?_; (case yF => k_asm); (case yX => k_asm); (case yN => k_asm); (case ymp => k_mem); (case ymd => k_mem); (case yp => with_reducible assumption); (case yhf => decide +kernel); (case yhi => k_is); (case yhg => k_is); (case yht => k_is))) | ((with_reducible show wpAny _ _ (call (.ref 210) _) _ _ _); refine Halt.out ?_) | ((with_reducible show wpAny _ _ (call (.ref 196) _) _ _ _); refine Halt.out ?_) | ((with_reducible show wpAny _ _ (call (.ref 133) _) _ _ _); refine Halt.out ?_) | (k_unfold; (try dsimp only)) | (k_end; wrow_close) | (walk1 <;> try dsimp only) | (dsimp only; walk1 <;> try dsimp only) | (leave1; walk_say "STEP leave1"; try dsimp only) | fail "no step")
        refine Halt.mk ?_
        k_dflt (refine' sample_s ?B ?F ?X ?T ?hk ?hdp ?hun ?N ?mp ?md ?yp ?ne ?_)
        (case B => k_asm)
        (case F => k_asm)
        (case X => k_asm)
        (case T => k_asm)
        (case hk => first | exact rfl | assumption)
        (case hdp => ktr_room)
        (case hun => ktr_units)
        (case N => k_asm)
        (case mp => k_dflt k_mem)
        (case md => k_dflt k_mem)
        (case yp => with_reducible assumption)
        (case ne => exact neTD D)
        intro otd5 h' tk5 pt5 F' H
        have N' := H _ (by k_upd)
        clear H
        try k_sweep
        repeat' (first | ((with_reducible show wpAny _ _ (getMethod (.ref _) _ _) _ _ _); k_dflt (refine' methRen ?yF ?yX ?yN ?ymp ?ymd ?yp ?yhf ?yhg ?yhi ?yht ?_; (case yF => k_asm); (case yX => k_asm); (case yN => k_asm); (case ymp => k_mem); (case ymd => k_mem); (case yp => with_reducible assumption); (case yhf => decide +kernel); (case yhi => k_is); (case yhg => k_is); (case yht => k_is))) | ((with_reducible show wpAny _ _ (getMethod (.ref _) _ _) _ _ _); k_dflt (refine' methRtt ?yF ?yX ?yN ?ymp ?ymd ?yp ?yhf ?yhg ?yhi ?yht ?_; (case yF => k_asm); (case yX => k_asm); (case yN => k_asm); (case ymp => k_mem); (case ymd => k_mem); (case yp => with_reducible assumption); (case yhf => decide +kernel); (case yhi => k_is); (case yhg => k_is); (case yht => k_is))) | ((with_reducible show wpAny _ _ (call (.ref 196) _) _ _ _); refine Halt.out ?_) | (k_unfold; (try dsimp only)) | (k_end; wrow_close) | (walk1 <;> try dsimp only) | (dsimp only; walk1 <;> try dsimp only) | (leave1; walk_say "STEP leave1"; try dsimp only) | fail "no step")
        refine Halt.mk ?_
        k_dflt (refine' smooth_s ?B ?F ?X ?T ?hk ?hdp ?hun ?N ?mp ?md ?yp ?_)
        (case B => k_asm)
        (case F => k_asm)
        (case X => k_asm)
        (case T => k_asm)
        (case hk => first | exact rfl | assumption)
        (case hdp => ktr_room)
        (case hun => ktr_units)
        (case N => k_asm)
        (case mp => k_dflt k_mem)
        (case md => k_dflt k_mem)
        (case yp => with_reducible assumption)
        intro t6 h' tk6 F' N'
        try k_sweep
        repeat' (first | ((with_reducible show wpAny _ _ (call (.ref 133) _) _ _ _); refine Halt.out ?_) | (k_unfold; (try dsimp only)) | (k_end; wrow_close) | (walk1 <;> try dsimp only) | (dsimp only; walk1 <;> try dsimp only) | (leave1; walk_say "STEP leave1"; try dsimp only) | fail "no step")
        refine Halt.mk ?_
        k_dflt (refine' acked_s ?B ?F ?X ?T ?hk ?hdp ?hun ?N ?mp ?md ?yp ?ne ?_)
        (case B => k_asm)
        (case F => k_asm)
        (case X => k_asm)
        (case T => k_asm)
        (case hk => first | exact rfl | assumption)
        (case hdp => ktr_room)
        (case hun => ktr_units)
        (case N => k_asm)
        (case mp => k_dflt k_mem)
        (case md => k_dflt k_mem)
        (case yp => with_reducible assumption)
        (case ne => exact neRD D)
        intro ord7 h' tk7 pr7 F' H
        have N' := H _ (by k_upd)
        clear H
        try k_sweep
        repeat' (first | (with_reducible refine' halt_assign (x := Str.ofString "size") ⟨⟩ ?_) | (k_unfold; (try dsimp only)) | (k_end; wrow_close) | (walk1 <;> try dsimp only) | (dsimp only; walk1 <;> try dsimp only) | (leave1; walk_say "STEP leave1"; try dsimp only) | fail "no step")
        refine Halt.mk ?_
        (with_unfolding_all refine' kk ?f0 ?f1 ?e2 ?dd ?st ?F ?N ?H)
        case F => k_asm
        case H => exact ⟨rfl, rfl, rfl, rfl, rfl, rfl, rfl, rfl, rfl, rfl, rfl, rfl, rfl, trivial⟩
        case N => exact news_led (by k_asm) (by k_dflt k_mem) (fun q hq => by (repeat (first | exact hq | refine List.mem_cons_of_mem _ ?_)))
        case st => exact ⟨D, pb1, pl1, pr7, pt5, p5, p6, p7, ⟨_, _, hop', rfl⟩, p9⟩
        case f0 => exact r1a
        case f1 => exact r1b
        case e2 => rfl
        case dd => exact Or.inr ⟨z, t, ho, rfl, rfl⟩
  · skip
    refine Halt.mk ?_
    (with_unfolding_all refine' kk ?f0 ?f1 ?e2 ?dd ?st ?F ?N ?H)
    case F => k_asm
    case H => exact ⟨rfl, rfl, rfl, rfl, rfl, rfl, rfl, rfl, rfl, rfl, rfl, rfl, rfl, trivial⟩
    case N => exact news_led (by k_asm) (by k_dflt k_mem) (fun q hq => by (repeat (first | exact hq | refine List.mem_cons_of_mem _ ?_)))
    case st => exact ⟨D, pb1, pl1, p3, p4, p5, p6, p7, ⟨_, _, hop, rfl⟩, p9⟩
    case f0 => exact r1a
    case f1 => exact r1b
    case e2 => rfl
    case dd => exact Or.inl ⟨rfl, rfl, rfl⟩
theorem nums_on {σ : Pl} {i : Nat} {le s1 S size : Int} {out : List (Int × Int)} (c : Nums σ i le s1 S out) (h0 : 0 ≤ size) (h1 : size ≤ 1200) (h2 : size ≤ le) : Nums σ (i + 1) (le - size) (s1 + size) (S + size) (out ++ [(size, σ.now)]) := by
  obtain ⟨c1, c2, c3, c4, c5, c6⟩ := c
  refine ⟨by omega, by omega, by omega, by omega, by (simp only [List.length_append, List.length_cons, List.length_nil]; omega), ?_⟩
  intro z hz
  rcases List.mem_append.mp hz with hz | hz
  · exact c6 z hz
  · rw [List.mem_singleton.mp hz]
    exact Or.inr ⟨h0, h1⟩
theorem turnOn {w : World} {a : Ad} {way Bu : Int} {I I2 t : Addr} {o o2 : Obj} {tw tb tg tf tz tx ty : Tok} {g form size : Int} {σ : Pl} {si : Addr} {i n k : Nat} {h₀ : Heap} {L : Addr} {s : Shared} {Q : Flow → Shared → Prop} {h' : Heap} {tk : Nat} {m : Str → Option Value} {all : List (Addr × Obj)} {ob ol ord otd opd osi olo : Obj} {tl : List (Addr × Obj)} {vs : List Value}
    {le fl s1 S : Int} {out : List (Int × Int)} {tn ts : Tok} (F : Fr h₀ L h' m) (N : News h₀ L h' all) (c : Nums σ (i + 1) le s1 S (out ++ [(size, σ.now)]))
    (e2 : (I2, o2) ∈ all) (e1 : (I, o) ∈ all) (hs : ∀ q ∈ Led a si ob ol ord otd opd osi olo (listOf (vs.toArray.push (.ref t)) k) tl, q ∈ all) (ht : (t, tupO size σ.now tx ty n) ∈ all) (hI : Off I a si tl) (hI2 : Off I2 a si tl) (hII : NeA I I2) (n1 : NeA t I) (n2 : NeA t I2) (hD : Off t a si tl)
    (D : Dis a si tl) (p1 : BoxO a.l σ.k ob) (p2 : IntsO ol) (p3 : RenO w σ.win fl ord) (p4 : RttO w way otd) (p5 : PacO w Bu le σ.re σ.now opd) (p6 : SinO σ.s0 s1 osi) (p7 : PrsO tl σ.looks olo) (hop : Prs tl vs out) (p9 : Tups tl)
    (H : Has m ((Str.ofString "now", .int σ.now tn) :: (Str.ofString "since", .ref si) :: (Str.ofString "gained", .int g tg) :: (Str.ofString "sent", .int S ts) :: (Str.ofString "form", .int form tf) :: (Str.ofString "size", .int size tz) :: fixN a way Bu tw tb)) :
    TurnPost h₀ L (I2, o2) (JL w a way Bu I o tw tb tg tf tz g form size σ si (i + 1)) s Q .next { s with heap := h', toks := tk } :=
  turnL le fl s1 S _ F N c e2 e1 (Led.cons_sub hs ht) (Off.cons hI n1) (Off.cons hI2 n2) hII
    ⟨Dis.cons D hD, p1, p2, p3, p4, p5, p6, (let ⟨vs, n, h, e⟩ := p7; ⟨vs, n, h.mono (fun _ h => .tail _ h), e⟩), prsO_snoc hop rfl (List.Mem.head _), tups_cons rfl p9⟩ H
theorem nums_off {σ : Pl} {i : Nat} {le s1 S : Int} {out : List (Int × Int)} (c : Nums σ i le s1 S out) : Nums σ (i + 1) le s1 S out :=
  ⟨c.c1, c.c2, c.c3, c.c4, by have := c.c5; omega, c.c6⟩

theorem segT {w : World} {p : Program} {loose : List Str} {mean : ExcName → Option Value} {mg mb : Str → Option Value}
    {dp un : Nat} {gd : Option (List Code)} {fa : Addr} {ccd : Value} {outer : List Env} {A₀ : Around} {base h₀ : Heap} {L : Addr} {s : Shared} {Q : Flow → Shared → Prop} {E : Value → Shared → Prop}
    (B : Below A₀ base outer h₀) (X : (hd.heap_39 w.params).In h₀) (T : Top p loose mean mg mb h₀) (hdp : dp + 12 < recursionLimit) (hun : un + 400 < cLine)
    {a : Ad} {way Bu : Int} (hy0 : 4000 ≤ way) (hy1 : way ≤ 23000) (hb0 : 2400 ≤ Bu) (hb1 : Bu ≤ 6000)
    {σ : Pl} {si I I2 : Addr} {o o2 : Obj} {tn ts tw tb tg tz tf : Tok} {g form size le fl s1 S : Int} {out : List (Int × Int)} {v : Value} {i : Nat} {u : Str → Option Value} {ob ol ord otd opd osi olo oou : Obj} {tl : List (Addr × Obj)}
    (c : Nums σ i le s1 S out) (hI : Off I a si tl) (hI2 : Off I2 a si tl) (hII : NeA I I2) (S' : St w a way Bu { σ with le := le, fl := fl, s1 := s1, out := out } si ob ol ord otd opd osi olo oou tl)
    (F : Fr h₀ L s.heap (fun y => if y = Str.ofString "packet" then some v else over ((Str.ofString "now", .int σ.now tn) :: (Str.ofString "since", .ref si) :: (Str.ofString "gained", .int g tg) :: (Str.ofString "sent", .int S ts) :: (Str.ofString "form", .int form tf) :: (Str.ofString "size", .int size tz) :: fixN a way Bu tw tb) u y)) (N : News h₀ L s.heap ((I2, o2) :: (I, o) :: Led a si ob ol ord otd opd osi olo oou tl))
    (hz0 : 300 ≤ size) (hz1 : size ≤ 1200) (hw0 : 12000 ≤ σ.win) (hw1 : σ.win ≤ 50000) (hr0 : 0 ≤ σ.re) (hr1 : σ.re < 4 * way) (hol : σ.out.length + i ≤ 200) :
    wpAny (model PP w) (ktrTop dp un gd (Str.ofString "law") lawScope L fa ccd [] outer) (execs packetBody (envOf (Str.ofString "law") lawScope L fa ccd)) (TurnPost h₀ L (I2, o2) (JL w a way Bu I o tw tb tg tf tz g form size σ si (i + 1)) s Q) E s := by
  w_on
  (with_unfolding_all show wpAny _ _ (execs (_ :: _) (envOf _ (Scope.mk _ _ _ _ _) _ _ _)) _ _ _)
  obtain ⟨D, p1, p2, p3, p4, p5, ⟨ts0, ts1, ns⟩, p7, ⟨ovs, nou, hop, rfl⟩, p9⟩ := S'
  have hov : ovs.length ≤ 300 := by
    have h1 := hop.len
    have h2 := c.c5
    dsimp only at h1
    omega
  repeat' (first | ((with_reducible show wpAny _ _ (call (.ref 238) _) _ _ _); refine Halt.out ?_) | ((with_reducible show wpAny _ _ (getAttr (.ref _) (Str.ofString "window") _) _ _ _); k_dflt (refine' winN ?yB ?yF ?yX ?yT ?yhk ?yhdp ?yhun ?yN ?ymp ?ymd ?yp ?_; (case yB => k_asm); (case yF => k_asm); (case yX => k_asm); (case yT => k_asm); (case yhk => first | exact rfl | assumption); (case yhdp => ktr_room); (case yhun => ktr_units); (case yN => k_asm); (case ymp => k_mem); (case ymd => k_mem); (case yp => with_reducible assumption)); intro ta9) | (k_unfold; (try dsimp only)) | (k_end; wrow_close) | (walk1 <;> try dsimp only) | (dsimp only; walk1 <;> try dsimp only) | (leave1; walk_say "STEP leave1"; try dsimp only) | fail "no step")
  refine Halt.mk ?_
  k_dflt (refine' least_s ?B ?F ?X ?T ?hk ?hdp ?hun ?N ?mp ?md ?yp ?a1 ?a2 ?a3 ?a4 ?a5 ?a6 ?a7 ?_)
  (case B => k_asm)
  (case F => k_asm)
  (case X => k_asm)
  (case T => k_asm)
  (case hk => first | exact rfl | assumption)
  (case hdp => ktr_room)
  (case hun => ktr_units)
  (case N => k_asm)
  (case mp => k_dflt k_mem)
  (case md => k_dflt k_mem)
  (case yp => with_reducible assumption)
  (case a1 => omega)
  (case a2 => omega)
  (case a3 => omega)
  (case a4 => omega)
  (case a5 => omega)
  (case a6 => omega)
  (case a7 => omega)
  intro h' tk1 F' N'
  try k_sweep
  repeat' (first | ((with_reducible show wpAny _ _ (getMethod (.ref _) _ _) _ _ _); k_dflt (refine' methPac ?yF ?yX ?yN ?ymp ?ymd ?yp ?yhf ?yhg ?yhi ?yht ?_; (case yF => k_asm); (case yX => k_asm); (case yN => k_asm); (case ymp => k_mem); (case ymd => k_mem); (case yp => with_reducible assumption); (case yhf => decide +kernel); (case yhi => k_is); (case yhg => k_is); (case yht => k_is))) | ((with_reducible show wpAny _ _ (call (.ref 49) _) _ _ _); refine Halt.out ?_) | (k_unfold; (try dsimp only)) | (k_end; wrow_close) | (walk1 <;> try dsimp only) | (dsimp only; walk1 <;> try dsimp only) | (leave1; walk_say "STEP leave1"; try dsimp only) | fail "no step")
  refine Halt.mk ?_
  k_dflt (refine' mayP ?B ?F ?X ?T ?hk ?hdp ?hun ?N ?mp ?md ?yp ?_)
  (case B => k_asm)
  (case F => k_asm)
  (case X => k_asm)
  (case T => k_asm)
  (case hk => first | exact rfl | assumption)
  (case hdp => ktr_room)
  (case hun => ktr_units)
  (case N => k_asm)
  (case mp => k_dflt k_mem)
  (case md => k_dflt k_mem)
  (case yp => with_reducible assumption)
  intro h' tk2 F' N'
  try k_sweep
  repeat' (first | ((with_reducible show wpAny _ _ (getMethod (.ref _) _ _) _ _ _); k_dflt (refine' methRen ?yF ?yX ?yN ?ymp ?ymd ?yp ?yhf ?yhg ?yhi ?yht ?_; (case yF => k_asm); (case yX => k_asm); (case yN => k_asm); (case ymp => k_mem); (case ymd => k_mem); (case yp => with_reducible assumption); (case yhf => decide +kernel); (case yhi => k_is); (case yhg => k_is); (case yht => k_is))) | ((with_reducible show wpAny _ _ (call (.ref 98) _) _ _ _); refine Halt.out ?_) | (k_unfold; (try dsimp only)) | (k_end; wrow_close) | (walk1 <;> try dsimp only) | (dsimp only; walk1 <;> try dsimp only) | (leave1; walk_say "STEP leave1"; try dsimp only) | fail "no step")
  · skip
    refine Halt.mk ?_
    k_dflt (refine' mayN ?B ?F ?X ?T ?hk ?hdp ?hun ?N ?mp ?md ?yp ?_)
    (case B => k_asm)
    (case F => k_asm)
    (case X => k_asm)
    (case T => k_asm)
    (case hk => first | exact rfl | assumption)
    (case hdp => ktr_room)
    (case hun => ktr_units)
    (case N => k_asm)
    (case mp => k_dflt k_mem)
    (case md => k_dflt k_mem)
    (case yp => with_reducible assumption)
    intro h' tk3 F' N'
    try k_sweep
    repeat' (first | ((with_reducible show wpAny _ _ (getMethod (.ref _) _ _) _ _ _); k_dflt (refine' methPac ?yF ?yX ?yN ?ymp ?ymd ?yp ?yhf ?yhg ?yhi ?yht ?_; (case yF => k_asm); (case yX => k_asm); (case yN => k_asm); (case ymp => k_mem); (case ymd => k_mem); (case yp => with_reducible assumption); (case yhf => decide +kernel); (case yhi => k_is); (case yhg => k_is); (case yht => k_is))) | ((with_reducible show wpAny _ _ (call (.ref 56) _) _ _ _); refine Halt.out ?_) | (k_unfold; (try dsimp only)) | (k_end; wrow_close) | (walk1 <;> try dsimp only) | (dsimp only; walk1 <;> try dsimp only) | (leave1; walk_say "STEP leave1"; try dsimp only) | fail "no step")
    · skip
      refine Halt.mk ?_
      k_dflt (refine' sentP ?B ?F ?X ?T ?hk ?hdp ?hun ?N ?mp ?md ?yp ?ne ?_)
      (case B => k_asm)
      (case F => k_asm)
      (case X => k_asm)
      (case T => k_asm)
      (case hk => first | exact rfl | assumption)
      (case hdp => ktr_room)
      (case hun => ktr_units)
      (case N => k_asm)
      (case mp => k_dflt k_mem)
      (case md => k_dflt k_mem)
      (case yp => with_reducible assumption)
      (case ne => exact nePD D)
      intro opd4 h' tk4 pp4 F' H
      have N' := H _ (by k_upd)
      clear H
      try k_sweep
      repeat' (first | ((with_reducible show wpAny _ _ (getMethod (.ref _) _ _) _ _ _); k_dflt (refine' methRen ?yF ?yX ?yN ?ymp ?ymd ?yp ?yhf ?yhg ?yhi ?yht ?_; (case yF => k_asm); (case yX => k_asm); (case yN => k_asm); (case ymp => k_mem); (case ymd => k_mem); (case yp => with_reducible assumption); (case yhf => decide +kernel); (case yhi => k_is); (case yhg => k_is); (case yht => k_is))) | ((with_reducible show wpAny _ _ (call (.ref 119) _) _ _ _); refine Halt.out ?_) | (k_unfold; (try dsimp only)) | (k_end; wrow_close) | (walk1 <;> try dsimp only) | (dsimp only; walk1 <;> try dsimp only) | (leave1; walk_say "STEP leave1"; try dsimp only) | fail "no step")
      refine Halt.mk ?_
      k_dflt (refine' sentN ?B ?F ?X ?T ?hk ?hdp ?hun ?N ?mp ?md ?yp ?ne ?_)
      (case B => k_asm)
      (case F => k_asm)
      (case X => k_asm)
      (case T => k_asm)
      (case hk => first | exact rfl | assumption)
      (case hdp => ktr_room)
      (case hun => ktr_units)
      (case N => k_asm)
      (case mp => k_dflt k_mem)
      (case md => k_dflt k_mem)
      (case yp => with_reducible assumption)
      (case ne => exact neRD D)
      intro ord5 h' tk5 pr5 F' H
      have N' := H _ (by k_upd)
      clear H
      try k_sweep
      repeat' (first | ((with_reducible show wpAny _ _ (call (Value.builtin "list.append") _) _ _ _); k_dflt (refine' append_K ?yk1 ?yk2 ?yk3 ?_ ?yz; (case yk1 => k_asm); (case yk2 => k_asm); (case yk3 => k_upd); (case yz => (simp only [List.size_toArray, PySem.sizeLine_eq]; omega)); k_whole); intro h' F' N'; (try k_sweep)) | ((with_reducible show wpAny _ _ (subscriptTail _ _ (.ref _) (.int 0 _)) _ _ _); k_dflt (refine' sin0 ?yN ?ym ?_ ?yhs; (case yN => k_asm); (case ym => k_mem); (case yhs => with_unfolding_all rfl))) | ((with_reducible show wpAny _ _ (subscriptTail _ _ (.ref _) (.int 1 _)) _ _ _); k_dflt (refine' sin1 ?yN ?ym ?_ ?yhs; (case yN => k_asm); (case ym => k_mem); (case yhs => with_unfolding_all rfl))) | (k_unfold; (try dsimp only)) | (k_end; wrow_close) | (walk1 <;> try dsimp only) | (dsimp only; walk1 <;> try dsimp only) | (leave1; walk_say "STEP leave1"; try dsimp only) | fail "no step")
      (with_unfolding_all refine' turnOn (out := out) ?F ?N ?c ?e2 ?e1 ?hs ?ht ?hI ?hI2 ?hII ?n1 ?n2 ?hD ?D ?p1 ?p2 ?p3 ?p4 ?p5 ?p6 ?p7 ?hop ?p9 ?H)
      case F => k_asm
      case N => k_asm
      case H => exact ⟨rfl, rfl, rfl, rfl, rfl, rfl, rfl, rfl, rfl, rfl, rfl, rfl, rfl, rfl, trivial⟩
      case hs => exact (fun q hq => by (repeat (first | exact hq | refine List.mem_cons_of_mem _ ?_)))
      case ht => k_dflt k_mem
      case c => exact nums_on c (by omega) hz1 (by assumption)
      case e2 => k_dflt k_mem
      case e1 => k_dflt k_mem
      case hI => exact hI
      case hI2 => exact hI2
      case hII => exact hII
      case n1 => k_ne
      case n2 => k_ne
      case hD => exact off_new (by assumption) (fun q hq => by (repeat (first | exact hq | refine List.mem_cons_of_mem _ ?_)))
      case D => exact D
      case p1 => exact p1
      case p2 => exact p2
      case p3 => exact pr5
      case p4 => exact p4
      case p5 => exact pp4
      case p6 => exact (.mk _ _ _)
      case p7 => exact p7
      case hop => exact hop
      case p9 => exact p9
    · skip
      (with_unfolding_all refine' turnL le fl s1 S out ?F ?N ?c ?e2 ?e1 ?hs ?hI ?hI2 ?hII ?st ?H)
      case F => k_asm
      case N => k_asm
      case H => exact ⟨rfl, rfl, rfl, rfl, rfl, rfl, rfl, rfl, rfl, rfl, rfl, rfl, rfl, rfl, trivial⟩
      case c => exact nums_off c
      case e2 => k_dflt k_mem
      case e1 => k_dflt k_mem
      case hs => exact (fun q hq => by (repeat (first | exact hq | refine List.mem_cons_of_mem _ ?_)))
      case st => exact ⟨D, p1, p2, p3, p4, p5, (.mk _ _ _), p7, ⟨_, _, hop, rfl⟩, p9⟩
      case hI => exact hI
      case hI2 => exact hI2
      case hII => exact hII
  · skip
    (with_unfolding_all refine' turnL le fl s1 S out ?F ?N ?c ?e2 ?e1 ?hs ?hI ?hI2 ?hII ?st ?H)
    case F => k_asm
    case N => k_asm
    case H => exact ⟨rfl, rfl, rfl, rfl, rfl, rfl, rfl, rfl, rfl, rfl, rfl, rfl, rfl, rfl, trivial⟩
    case c => exact nums_off c
    case e2 => k_dflt k_mem
    case e1 => k_dflt k_mem
    case hs => exact (fun q hq => by (repeat (first | exact hq | refine List.mem_cons_of_mem _ ?_)))
    case st => exact ⟨D, p1, p2, p3, p4, p5, (.mk _ _ _), p7, ⟨_, _, hop, rfl⟩, p9⟩
    case hI => exact hI
    case hI2 => exact hI2
    case hII => exact hII
theorem lookOn {w : World} {a : Ad} {way Bu : Int} {I t : Addr} {o : Obj} {tx ty : Tok} {g S : Int} {σ : Pl} {si : Addr} {n k : Nat} {h₀ h' : Heap} {L : Addr} {all : List (Addr × Obj)} {ob ol ord otd opd osi oou : Obj} {tl : List (Addr × Obj)} {vs : List Value} {le fl s1 : Int} {out : List (Int × Int)} {C : Prop}
    (N : News h₀ L h' all) (e1 : (I, o) ∈ all) (hs : ∀ q ∈ Led a si ob ol ord otd opd osi (listOf (vs.toArray.push (.ref t)) k) oou tl, q ∈ all) (ht : (t, tupO g S tx ty n) ∈ all) (hI : Off I a si tl) (n1 : NeA t I) (hD : Off t a si tl)
    (D : Dis a si tl) (p1 : BoxO a.l σ.k ob) (p2 : IntsO ol) (p3 : RenO w σ.win fl ord) (p4 : RttO w way otd) (p5 : PacO w Bu le σ.re σ.now opd) (p6 : SinO σ.s0 s1 osi) (hlp : Prs tl vs σ.looks) (p8 : PrsO tl out oou) (p9 : Tups tl)
    (kk : ∀ olo tl, Off I a si tl → St w a way Bu { σ with le := le, fl := fl, s1 := s1, out := out, looks := σ.looks ++ [(g, S)] } si ob ol ord otd opd osi olo oou tl → News h₀ L h' ((I, o) :: Led a si ob ol ord otd opd osi olo oou tl) → C) : C :=
  kk _ ((t, tupO g S tx ty n) :: tl) (Off.cons hI n1)
    ⟨Dis.cons D hD, p1, p2, p3, p4, p5, p6, prsO_snoc hlp rfl (List.Mem.head _), (let ⟨vs, n, h, e⟩ := p8; ⟨vs, n, h.mono (fun _ h => .tail _ h), e⟩), tups_cons rfl p9⟩
    (news_led N e1 (Led.cons_sub hs ht))

theorem segF {w : World} {p : Program} {loose : List Str} {mean : ExcName → Option Value} {mg mb : Str → Option Value}
    {dp un : Nat} {gd : Option (List Code)} {fa : Addr} {ccd : Value} {outer : List Env} {A₀ : Around} {base h₀ : Heap} {L : Addr} {s : Shared} {Q : Flow → Shared → Prop} {E : Value → Shared → Prop}
    (B : Below A₀ base outer h₀) (X : (hd.heap_39 w.params).In h₀) (T : Top p loose mean mg mb h₀) (hdp : dp + 12 < recursionLimit) (hun : un + 400 < cLine)
    {a : Ad} {way Bu : Int} (hy0 : 4000 ≤ way) (hy1 : way ≤ 23000) (hb0 : 2400 ≤ Bu) (hb1 : Bu ≤ 6000)
    {σ : Pl} {si I : Addr} {o : Obj} {tn ts tw tb tg tz tf : Tok} {g form size le fl s1 S : Int} {out : List (Int × Int)} {i : Nat} {u : Str → Option Value} {ob ol ord otd opd osi olo oou : Obj} {tl : List (Addr × Obj)}
    (c : Nums σ i le s1 S out) (hi : i ≤ 3) (hI : Off I a si tl) (S' : St w a way Bu { σ with le := le, fl := fl, s1 := s1, out := out } si ob ol ord otd opd osi olo oou tl)
    (F : Fr h₀ L s.heap (over ((Str.ofString "now", .int σ.now tn) :: (Str.ofString "since", .ref si) :: (Str.ofString "gained", .int g tg) :: (Str.ofString "sent", .int S ts) :: (Str.ofString "form", .int form tf) :: (Str.ofString "size", .int size tz) :: fixN a way Bu tw tb) u)) (N : News h₀ L s.heap ((I, o) :: Led a si ob ol ord otd opd osi olo oou tl)) (hll : σ.looks.length ≤ 200)
    (kk : ∀ {le fl s1 S out tn' ob ol ord otd opd osi olo oou tl h' tk m'}, Nums σ 3 le s1 S out → Off I a si tl → St w a way Bu { σ with le := le, fl := fl, s1 := s1, out := out, looks := σ.looks ++ [(g, S)] } si ob ol ord otd opd osi olo oou tl → Fr h₀ L h' m' → News h₀ L h' ((I, o) :: Led a si ob ol ord otd opd osi olo oou tl) → Has m' ((Str.ofString "now", .int σ.now tn') :: (Str.ofString "since", .ref si) :: fixN a way Bu tw tb) → Q .next { s with heap := h', toks := tk }) :
    wpAny (model PP w) (ktrTop dp un gd (Str.ofString "law") lawScope L fa ccd [] outer) (execs (turnBody.drop 10) (envOf (Str.ofString "law") lawScope L fa ccd)) Q E s := by
  w_on
  (with_unfolding_all show wpAny _ _ (execs (_ :: _) (envOf _ (Scope.mk _ _ _ _ _) _ _ _)) _ _ _)
  obtain ⟨D, p1, p2, p3, p4, p5, p6, ⟨lvs, nlo, hlp, rfl⟩, p8, p9⟩ := S'
  have hov : lvs.length ≤ 300 := by
    have h1 := hlp.len
    dsimp only at h1
    omega
  repeat' (first | ((with_reducible show wpAny _ _ (call (Value.builtin "list.append") _) _ _ _); k_dflt (refine' append_K ?yk1 ?yk2 ?yk3 ?_ ?yz; (case yk1 => k_asm); (case yk2 => k_asm); (case yk3 => k_upd); (case yz => (simp only [List.size_toArray, PySem.sizeLine_eq]; omega)); k_whole); intro h' F' N'; (try k_sweep)) | (k_unfold; (try dsimp only)) | (k_end; wrow_close) | (walk1 <;> try dsimp only) | (dsimp only; walk1 <;> try dsimp only) | (leave1; walk_say "STEP leave1"; try dsimp only) | fail "no step")
  (with_unfolding_all refine' lookOn ?N ?e1 ?hs ?ht hI ?n1 ?hD D p1 p2 p3 p4 p5 p6 hlp p8 p9 ?kk)
  case N => k_asm
  case hs => exact (fun q hq => by (repeat (first | exact hq | refine List.mem_cons_of_mem _ ?_)))
  case ht => k_dflt k_mem
  case e1 => k_dflt k_mem
  case n1 => k_ne
  case hD => exact off_new (by assumption) (fun q hq => by (repeat (first | exact hq | refine List.mem_cons_of_mem _ ?_)))
  case kk =>
    intro olo tl hI' st N9
    (with_unfolding_all exact kk ⟨c.c1, c.c2, c.c3, c.c4, (by have := c.c5; omega), c.c6⟩ hI' st (by k_asm) N9 ⟨rfl, rfl, rfl, rfl, rfl, rfl, rfl, rfl, rfl, rfl, trivial⟩)
theorem packets_loop {prog : Program} {w : World} {A : Around} {E : Value → Shared → Prop} {s : Shared} {env : Env} {h₀ : Heap} {x : Str} {body : List Stmt} {Q : Flow → Shared → Prop} {r : Addr} {a₀ b₀ : Int} {t₀ u₀ v₀ : Tok} {n : Nat} {m₀ : Str → Option Value} {news : List (Addr × Obj)}
    {a : Ad} {way Bu : Int} {I9 : Addr} {o9 : Obj} {tw tb tg tf tz : Tok} {g form size : Int} {σ : Pl} {si : Addr}
    (hh : A.handled = none) (hr : IsRange s.heap r a₀ b₀ 1 t₀ u₀ v₀) (hsmall : Builtin.Range.small a₀ b₀ 1 = true) (hsz : Builtin.Range.rangeSize a₀ b₀ 1 = (n : Int)) (F : Fr h₀ env.locals s.heap m₀) (N : News h₀ env.locals s.heap news) (hj : JL w a way Bu I9 o9 tw tb tg tf tz g form size σ si 0 m₀ news)
    (turn : ∀ (i : Nat) (t : Tok) (m₁ : Str → Option Value) (nx : List (Addr × Obj)) (h : Heap) (tk : Nat) (I : Addr) (o : Obj), i < n → (∀ p ∈ nx, p.1 ≠ I) → JL w a way Bu I9 o9 tw tb tg tf tz g form size σ si i m₁ nx → Fr h₀ env.locals h (fun y => if y = x then some (.int (a₀ + i) t) else m₁ y) → News h₀ env.locals h ((I, o) :: nx) →
      wpAny (model prog w) A (execs body env) (TurnPost h₀ env.locals (I, o) (JL w a way Bu I9 o9 tw tb tg tf tz g form size σ si (i + 1)) { s with heap := h, toks := tk } Q) E { s with heap := h, toks := tk })
    (done : ∀ m₁ nx h tk, JL w a way Bu I9 o9 tw tb tg tf tz g form size σ si n m₁ nx → Fr h₀ env.locals h m₁ → News h₀ env.locals h nx → Q .next { s with heap := h, toks := tk }) :
    wpAny (model prog w) A (pyIter (.ref r)) (fun it s₂ => LoopAtV prog w A h₀ env x body Q E it s₂) E s :=
  range_loop (fun i m nx => JL w a way Bu I9 o9 tw tb tg tf tz g form size σ si i m nx) hh hr hsmall hsz F N hj turn done

theorem segE {w : World} {p : Program} {loose : List Str} {mean : ExcName → Option Value} {mg mb : Str → Option Value}
    {dp un : Nat} {gd : Option (List Code)} {fa : Addr} {ccd : Value} {outer : List Env} {A₀ : Around} {base h₀ : Heap} {L : Addr} {s : Shared} {Q : Flow → Shared → Prop} {E : Value → Shared → Prop}
    (B : Below A₀ base outer h₀) (X : (hd.heap_39 w.params).In h₀) (T : Top p loose mean mg mb h₀) (hdp : dp + 12 < recursionLimit) (hun : un + 400 < cLine)
    {a : Ad} {way Bu : Int} (hy0 : 4000 ≤ way) (hy1 : way ≤ 23000) (hb0 : 2400 ≤ Bu) (hb1 : Bu ≤ 6000)
    {σ : Pl} {si I : Addr} {o : Obj} {tn tw tb tg tz tf : Tok} {g form : Int} {u : Str → Option Value} {ob ol ord otd opd osi olo oou : Obj} {tl : List (Addr × Obj)} (hI : Off I a si tl) (S' : St w a way Bu σ si ob ol ord otd opd osi olo oou tl)
    (F : Fr h₀ L s.heap (over ((Str.ofString "now", .int σ.now tn) :: (Str.ofString "since", .ref si) :: (Str.ofString "gained", .int g tg) :: (Str.ofString "sent", .int 0 tz) :: (Str.ofString "form", .int form tf) :: fixN a way Bu tw tb) u)) (N : News h₀ L s.heap ((I, o) :: Led a si ob ol ord otd opd osi olo oou tl))
    (hE : PassesOwn (model PP w) (ktrTop dp un gd (Str.ofString "law") lawScope L fa ccd [] outer) (envOf (Str.ofString "law") lawScope L fa ccd) E) (hf0 : 0 ≤ form) (hf1 : form < 5) (hw0 : 12000 ≤ σ.win) (hw1 : σ.win ≤ 50000) (hr0 : 0 ≤ σ.re) (hr1 : σ.re < 4 * way) (hle : 0 ≤ σ.le) (hol : σ.out.length ≤ 100) (hll : σ.looks.length ≤ 200)
    (kk : ∀ {le fl s1 S out tn' ob ol ord otd opd osi olo oou tl h' tk m'}, Nums σ 3 le s1 S out → Off I a si tl → St w a way Bu { σ with le := le, fl := fl, s1 := s1, out := out, looks := σ.looks ++ [(g, S)] } si ob ol ord otd opd osi olo oou tl → Fr h₀ L h' m' → News h₀ L h' ((I, o) :: Led a si ob ol ord otd opd osi olo oou tl) → Has m' ((Str.ofString "now", .int σ.now tn') :: (Str.ofString "since", .ref si) :: fixN a way Bu tw tb) → Q .next { s with heap := h', toks := tk }) :
    wpAny (model PP w) (ktrTop dp un gd (Str.ofString "law") lawScope L fa ccd [] outer) (execs (turnBody.drop 8) (envOf (Str.ofString "law") lawScope L fa ccd)) Q E s := by
  w_on
  (with_unfolding_all show wpAny _ _ (execs (_ :: _) (envOf _ (Scope.mk _ _ _ _ _) _ _ _)) _ _ _)
  (with_unfolding_all have hE2 : PassesOwn _ _ (envOf _ (Scope.mk _ _ _ _ _) _ _ _) _ := hE)
  have hfm0 : 0 ≤ form.fmod 4 := Int.fmod_nonneg_of_pos _ (by decide)
  have hfm1 : form.fmod 4 < 4 := Int.fmod_lt_of_pos _ (by decide)
  have c0 : Nums σ 0 σ.le σ.s1 0 σ.out := ⟨Int.le_refl _, hle, by omega, by omega, Nat.le_refl _, fun z hz => Or.inl hz⟩
  repeat' (first | ((with_reducible show wpAny _ _ (exec (Stmt.For _ _ _ _ _) _) _ _ _); (rename Fr _ _ _ _ => lF'); (with_unfolding_all refine' For_invVF lF' ?yk1 ?yk2 ?_ (hE := by with_reducible assumption); (case yk1 => exact rfl); (case yk2 => exact rfl); k_whole)) | ((with_reducible show wpAny _ _ (pyIter (Value.ref _)) (fun it s₂ => LoopAtV _ _ _ _ _ _ _ _ _ it s₂) _ _); refine Halt.out ?_) | (k_unfold; (try dsimp only)) | (k_end; wrow_close) | (walk1 <;> try dsimp only) | (dsimp only; walk1 <;> try dsimp only) | (leave1; walk_say "STEP leave1"; try dsimp only) | fail "no step")
  · refine Halt.mk ?_
    rename_i hR F1 N1 _
    (with_unfolding_all refine' packets_loop (n := 3) ?hhA ?hrA ?hsmA ?hszA ?FA ?NA ?hjA ?turnA ?doneA)
    case hhA => rfl
    case hrA => exact hR
    case hsmA => exact small_one (by decide) (by decide) (by decide) (by decide)
    case hszA => rfl
    case FA => exact F1
    case NA => exact N1
    case hjA => exact .mk c0 hI ⟨rfl, rfl, rfl, rfl, rfl, rfl, rfl, rfl, rfl, rfl, rfl, rfl, rfl, rfl, trivial⟩ S'
    case turnA =>
      intro i t m₁ nx' h tk I2 o2 hi hne hJ F' N'
      refine JL.elim hJ ?_
      intro le fl s1 S out tn ts ob ol ord otd opd osi olo oou tl c hI H S' hnx
      subst hnx
      exact segT B X T hdp hun hy0 hy1 hb0 hb1 c hI (Off.of fun p hp => hne p (.tail _ hp)) (hne _ (.head _)) S' (by rw [has_over H]; exact F') N' (by omega) (by omega) hw0 hw1 hr0 hr1 (by omega)
    case doneA =>
      intro m₁ nx' h tk hJ F' N'
      refine JL.elim hJ ?_
      intro le fl s1 S out tn ts ob ol ord otd opd osi olo oou tl c hI H S' hnx
      subst hnx
      (with_unfolding_all exact segF B X T hdp hun hy0 hy1 hb0 hb1 c (by decide) hI S' (has_fr H F') N' hll kk)
  · refine Halt.mk ?_
    rename_i hR F1 N1 _
    (with_unfolding_all refine' packets_loop (n := 0) ?hhB ?hrB ?hsmB ?hszB ?FB ?NB ?hjB ?turnB ?doneB)
    case hhB => rfl
    case hrB => exact hR
    case hsmB => exact small_one (by decide) (by decide) (by decide) (by decide)
    case hszB => rfl
    case FB => exact F1
    case NB => exact N1
    case hjB => exact .mk c0 hI ⟨rfl, rfl, rfl, rfl, rfl, rfl, rfl, rfl, rfl, rfl, rfl, rfl, rfl, rfl, trivial⟩ S'
    case turnB =>
      intro i t m₁ nx' h tk I2 o2 hi hne hJ F' N'
      refine JL.elim hJ ?_
      intro le fl s1 S out tn ts ob ol ord otd opd osi olo oou tl c hI H S' hnx
      subst hnx
      exact segT B X T hdp hun hy0 hy1 hb0 hb1 c hI (Off.of fun p hp => hne p (.tail _ hp)) (hne _ (.head _)) S' (by rw [has_over H]; exact F') N' (by omega) (by omega) hw0 hw1 hr0 hr1 (by omega)
    case doneB =>
      intro m₁ nx' h tk hJ F' N'
      refine JL.elim hJ ?_
      intro le fl s1 S out tn ts ob ol ord otd opd osi olo oou tl c hI H S' hnx
      subst hnx
      (with_unfolding_all exact segF B X T hdp hun hy0 hy1 hb0 hb1 c (by decide) hI S' (has_fr H F') N' hll kk)
inductive JO (w : World) (a : Ad) (way Bu : Int) (tw tb : Tok) (i : Nat) (m : Str → Option Value) : List (Addr × Obj) → Prop
  | mk {σ : Pl} {si : Addr} {tn : Tok} {ob ol ord otd opd osi olo oou : Obj} {tl : List (Addr × Obj)} (hi : Inv way Bu i σ) (H : Has m ((Str.ofString "now", .int σ.now tn) :: (Str.ofString "since", .ref si) :: fixN a way Bu tw tb)) (S : St w a way Bu σ si ob ol ord otd opd osi olo oou tl) : JO w a way Bu tw tb i m (Led a si ob ol ord otd opd osi olo oou tl)
theorem JO.elim {w : World} {a : Ad} {way Bu : Int} {tw tb : Tok} {i : Nat} {m : Str → Option Value} {nx : List (Addr × Obj)} {C : Prop} (h : JO w a way Bu tw tb i m nx)
    (k : ∀ σ si tn ob ol ord otd opd osi olo oou tl, Inv way Bu i σ → Has m ((Str.ofString "now", .int σ.now tn) :: (Str.ofString "since", .ref si) :: fixN a way Bu tw tb) → St w a way Bu σ si ob ol ord otd opd osi olo oou tl → nx = Led a si ob ol ord otd opd osi olo oou tl → C) : C := by
  cases h with
  | mk h1 h2 h3 => exact k _ _ _ _ _ _ _ _ _ _ _ _ h1 h2 h3 rfl
theorem b_win {x : Int} {i : Nat} (h : x ≤ 12000 + 1200 * i) (hi : i < 12) : x ≤ 50000 := by omega
theorem b_k {x : Int} {i : Nat} (h : x ≤ 2 + 3 * i) (hi : i < 12) : x ≤ 60 := by omega
theorem b_k2 {x y : Int} {i : Nat} (e : y = x + 2) (h0 : 0 ≤ x) (h : x ≤ 2 + 3 * i) (hi : i < 12) : 0 ≤ y ∧ y ≤ 60 := by omega
theorem b_1 {x : Int} (h : 4000 ≤ x) : 1 ≤ x := Int.le_trans (by decide) h
theorem b_0 {x : Int} (h : 2400 ≤ x) : 0 ≤ x := Int.le_trans (by decide) h
theorem b_w {x : Int} (h : 12000 ≤ x) : 0 ≤ x := Int.le_trans (by decide) h
theorem b_g {x : Int} (h : 1 ≤ x) : 0 ≤ x := Int.le_trans (by decide) h
theorem b_out {n i : Nat} (h : n ≤ 3 * i) (hi : i < 12) : n ≤ 100 := by omega
theorem b_look {n i : Nat} (h : n = i) (hi : i < 12) : n ≤ 200 := by omega
theorem win_on {win0 win fl0 fl : Int} {i : Nat} {out0 out : List (Int × Int)} (h6 : 12000 ≤ win0) (h7 : win0 ≤ 12000 + 1200 * i) (hi : i < 12) (h11 : out0.length ≤ 3 * i) (h12 : ∀ z ∈ out0, 0 ≤ z.1 ∧ z.1 ≤ 1200)
    (d2 : (win = win0 ∧ fl = fl0 ∧ out = out0) ∨ ∃ z t, out0 = (z, t) :: out ∧ win = win0 + z ∧ fl = fl0 - z) : 12000 ≤ win ∧ win ≤ 50000 ∧ out.length ≤ 36 := by
  obtain ⟨w2, w3, w4, _⟩ := win_step h6 h7 h11 h12 d2
  exact ⟨w2, by omega, by omega⟩
theorem turnT {w : World} {p : Program} {loose : List Str} {mean : ExcName → Option Value} {mg mb : Str → Option Value}
    {dp un : Nat} {gd : Option (List Code)} {fa : Addr} {ccd : Value} {outer : List Env} {A₀ : Around} {base h₀ : Heap} {L : Addr} {s : Shared} {Q : Flow → Shared → Prop} {E : Value → Shared → Prop}
    (B : Below A₀ base outer h₀) (X : (hd.heap_39 w.params).In h₀) (T : Top p loose mean mg mb h₀) (hdp : dp + 12 < recursionLimit) (hun : un + 400 < cLine)
    {a : Ad} {way Bu : Int} (hy0 : 4000 ≤ way) (hy1 : way ≤ 23000) (hb0 : 2400 ≤ Bu) (hb1 : Bu ≤ 6000)
    {I : Addr} {o : Obj} {tw tb : Tok} {i : Nat} {v : Value} {m₁ : Str → Option Value} {nx : List (Addr × Obj)} (hi : i < 12) (hne : ∀ q ∈ nx, q.1 ≠ I) (hJ : JO w a way Bu tw tb i m₁ nx)
    (F : Fr h₀ L s.heap (fun y => if y = Str.ofString "turn" then some v else m₁ y)) (N : News h₀ L s.heap ((I, o) :: nx)) (hE : PassesOwn (model PP w) (ktrTop dp un gd (Str.ofString "law") lawScope L fa ccd [] outer) (envOf (Str.ofString "law") lawScope L fa ccd) E) :
    wpAny (model PP w) (ktrTop dp un gd (Str.ofString "law") lawScope L fa ccd [] outer) (execs turnBody (envOf (Str.ofString "law") lawScope L fa ccd)) (TurnPost h₀ L (I, o) (JO w a way Bu tw tb (i + 1)) s Q) E s := by
  refine JO.elim hJ ?_
  intro σ si tn ob ol ord otd opd osi olo oou tl hInv H S hnx
  subst hnx
  refine segA B X T hdp hun hy0 hy1 hb0 hb1 (Off.of hne) S (has_fr (has_other (x := Str.ofString "turn") (v := some v) H (by rfl)) F) N hInv.a6 (b_win hInv.a7 hi) hInv.a8 (b_k hInv.a9 hi) (plain_hC (b_1 hy0) hInv) ?_
  intro gap now le re s0 s1 k si' tg tz tn' ob' ol' opd' osi' h' tk m' hg e1 e2 hEp dd hI1 S1 F1 N1 H1
  obtain ⟨q1, _, q3, q4, _, _, _⟩ := plain_earn (b_1 hy0) (b_0 hb0) (b_w hInv.a6) (b_g hg) hInv.a1 hInv.a3 hInv.a5 hEp dd
  refine segC B X T hdp hun hy0 hy1 hb0 hb1 (g := 5 * σ.win * gap) hI1 S1 (has_fr H1 F1) N1 (b_k2 e2 hInv.a8 hInv.a9 hi).1 (b_k2 e2 hInv.a8 hInv.a9 hi).2 (b_out hInv.a11 hi) ?_
  intro form win fl k2 out tf tn2 ob2 ol2 ord2 otd2 oou2 h2 tk2 m2 f0 f1 e3 d2 S2 F2 N2 H2
  obtain ⟨w1, w2, w3⟩ := win_on hInv.a6 hInv.a7 hi hInv.a11 hInv.a12 d2
  refine segE B X T hdp hun hy0 hy1 hb0 hb1 (g := 5 * σ.win * gap) hI1 S2 (has_fr H2 F2) N2 hE f0 f1 w1 w2 q3 q4 q1 (Nat.le_trans w3 (by decide)) (b_look hInv.a10 hi) ?_
  intro le3 fl3 s13 S9 out3 tn3 ob3 ol3 ord3 otd3 opd3 osi3 olo3 oou3 tl3 h3 tk3 m3 c hI3 S3 F3 N3 H3
  exact ⟨h3, tk3, m3, _, rfl, F3, N3, hI3.all, .mk (plain_step (b_1 hy0) (b_0 hb0) hInv hg e2 hEp dd e3 d2 c.c1 c.c2 c.c3 c.c4 c.c5 c.c6) H3 S3⟩
theorem segZ {w : World} {p : Program} {loose : List Str} {mean : ExcName → Option Value} {mg mb : Str → Option Value}
    {dp un : Nat} {gd : Option (List Code)} {fa : Addr} {ccd : Value} {outer : List Env} {A₀ : Around} {base h₀ : Heap} {L : Addr} {s : Shared} {Q : Flow → Shared → Prop} {E : Value → Shared → Prop}
    (B : Below A₀ base outer h₀) (X : (hd.heap_39 w.params).In h₀) (T : Top p loose mean mg mb h₀) (hdp : dp + 12 < recursionLimit) (hun : un + 400 < cLine)
    {a : Ad} {way Bu : Int} (hy0 : 4000 ≤ way) (hy1 : way ≤ 23000) (hb0 : 2400 ≤ Bu) (hb1 : Bu ≤ 6000)
    {tw tb : Tok} {m₁ : Str → Option Value} {nx : List (Addr × Obj)} (hJ : JO w a way Bu tw tb 12 m₁ nx) (F : Fr h₀ L s.heap m₁) (N : News h₀ L s.heap nx)
    (kk : ∀ h' tk m' nx', Fr h₀ L h' m' → News h₀ L h' nx' → Q (.ret (.bool true)) { s with heap := h', toks := tk }) :
    wpAny (model PP w) (ktrTop dp un gd (Str.ofString "law") lawScope L fa ccd [] outer) (execs (lawParts.1.drop 6) (envOf (Str.ofString "law") lawScope L fa ccd)) Q E s := by
  w_on
  (with_unfolding_all show wpAny _ _ (execs (_ :: _) (envOf _ (Scope.mk _ _ _ _ _) _ _ _)) _ _ _)
  refine JO.elim hJ ?_
  intro σ si tn ob ol ord otd opd osi olo oou tl hInv H S hnx
  subst hnx
  obtain ⟨_, v2, _, _, _, _, _, _, _, v10, _, _, _, v14⟩ := hInv
  obtain ⟨D, p1, p2, p3, p4, p5, p6, ⟨lvs, nlo, hlp, rfl⟩, p8, p9⟩ := S
  rw [← has_over H] at F
  have hlz : lvs.length ≤ 12 := by rw [hlp.len, v10]; exact Nat.le_refl _
  repeat' (first | ((with_reducible show wpAny _ _ (getMethod (.ref _) _ _) _ _ _); k_dflt (refine' methRtt ?yF ?yX ?yN ?ymp ?ymd ?yp ?yhf ?yhg ?yhi ?yht ?_; (case yF => k_asm); (case yX => k_asm); (case yN => k_asm); (case ymp => k_mem); (case ymd => k_mem); (case yp => with_reducible assumption); (case yhf => decide +kernel); (case yhi => k_is); (case yhg => k_is); (case yht => k_is))) | ((with_reducible show wpAny _ _ (call (.ref 196) _) _ _ _); refine Halt.out ?_) | (k_unfold; (try dsimp only)) | (k_end; wrow_close) | (walk1 <;> try dsimp only) | (dsimp only; walk1 <;> try dsimp only) | (leave1; walk_say "STEP leave1"; try dsimp only) | fail "no step")
  refine Halt.mk ?_
  k_dflt (refine' smooth_s ?B ?F ?X ?T ?hk ?hdp ?hun ?N ?mp ?md ?yp ?_)
  (case B => k_asm)
  (case F => k_asm)
  (case X => k_asm)
  (case T => k_asm)
  (case hk => first | exact rfl | assumption)
  (case hdp => ktr_room)
  (case hun => ktr_units)
  (case N => k_asm)
  (case mp => k_dflt k_mem)
  (case md => k_dflt k_mem)
  (case yp => with_reducible assumption)
  intro t1 h' tk1 F' N'
  try k_sweep
  repeat' (first | ((with_reducible show wpAny _ _ (getAttr (.ref _) (Str.ofString "left") _) _ _ _); k_dflt (refine' leftP ?yB ?yF ?yX ?yT ?yhk ?yhdp ?yhun ?yN ?ymp ?ymd ?yp ?_; (case yB => k_asm); (case yF => k_asm); (case yX => k_asm); (case yT => k_asm); (case yhk => first | exact rfl | assumption); (case yhdp => ktr_room); (case yhun => ktr_units); (case yN => k_asm); (case ymp => k_mem); (case ymd => k_mem); (case yp => with_reducible assumption)); intro ta9) | ((with_reducible show wpAny _ _ (call (.ref 245) _) _ _ _); refine Halt.out ?_) | (k_unfold; (try dsimp only)) | (k_end; wrow_close) | (walk1 <;> try dsimp only) | (dsimp only; walk1 <;> try dsimp only) | (leave1; walk_say "STEP leave1"; try dsimp only) | fail "no step")
  · refine Halt.mk ?_
    k_dflt (refine' within_s ?B ?F ?X ?T ?hk ?hdp ?hun ?N ?ml ?yp ?hz ?y0 ?y1 ?hW ?_)
    (case B => k_asm)
    (case F => k_asm)
    (case X => k_asm)
    (case T => k_asm)
    (case hk => first | exact rfl | assumption)
    (case hdp => ktr_room)
    (case hun => ktr_units)
    (case N => k_asm)
    (case ml => k_dflt k_mem)
    (case yp => exact hlp.mono (fun q hq => by (repeat (first | exact Led.mem_tl hq | refine List.mem_cons_of_mem _ ?_))))
    (case hz => exact hlz)
    (case y0 => omega)
    (case y1 => omega)
    (case hW => exact v14)
    intro h' tks9 F' N'
    exact kk _ _ _ _ F' N'
  · exfalso
    omega
theorem len50 {vs : List Value} {ns : List Int} (h : IntsAre vs (ns.take 50)) : vs.length ≤ 50 := by
  rw [h.length, List.length_take]
  omega
theorem keep2 {h₀ h : Heap} {L : Addr} {x y : Addr × Obj} {all : List (Addr × Obj)} (N : News h₀ L h all) (e1 : x ∈ all) (e2 : y ∈ all) : News h₀ L h [x, y] := by
  intro q hq
  rcases List.mem_cons.mp hq with rfl | hq
  · exact N _ e1
  · rw [List.mem_singleton.mp hq]; exact N _ e2
theorem lt_new {x d : Addr} {o : Obj} {l : List (Addr × Obj)} (h : ∀ p ∈ l, @LT.lt Nat _ p.1 d) (hm : (x, o) ∈ l) : @LT.lt Nat _ x d := h _ hm
def Asc : Nat → List Nat → Prop
  | _, [] => True
  | x, y :: r => @LT.lt Nat _ x y ∧ Asc y r
theorem asc_lt : ∀ {l : List Nat} {x : Nat}, Asc x l → ∀ y ∈ l, @LT.lt Nat _ x y
  | [], _, _, _, hy => nomatch hy
  | z :: r, x, h, y, hy => by
    rcases List.mem_cons.mp hy with rfl | hy
    · exact h.1
    · exact Nat.lt_trans h.1 (asc_lt h.2 y hy)
theorem asc_nodup : ∀ {l : List Nat} {x : Nat}, Asc x l → (x :: l).Nodup
  | [], _, _ => List.nodup_cons.mpr ⟨(fun h => nomatch h), List.nodup_nil⟩
  | z :: r, x, h => List.nodup_cons.mpr ⟨fun hm => Nat.lt_irrefl _ (asc_lt h x hm), asc_nodup h.2⟩
theorem dis_start {si b l ra rd ta td pa pd lo ou : Addr} (h : Asc l [b, rd, ra, td, ta, pd, pa, si, lo, ou]) : Dis ⟨b, l, ra, rd, ta, td, pa, pd, lo, ou⟩ si [] :=
  (((List.Perm.swap b l _).trans (.cons b (.cons l ((List.Perm.swap ra rd _).trans (.cons ra (.cons rd ((List.Perm.swap ta td _).trans (.cons ta (.cons td (List.Perm.swap pa pd _)))))))))).symm.nodup_iff.mpr (asc_nodup h) : (b :: l :: ra :: rd :: ta :: td :: pa :: pd :: si :: lo :: ou :: []).Nodup)
theorem led_all {si b l ra rd ta td pa pd lo ou : Addr} {ob ol ord otd opd osi olo oou : Obj} {all : List (Addr × Obj)} (e0 : (b, ob) ∈ all) (e1 : (l, ol) ∈ all) (e2 : (ra, instObj 164 rd) ∈ all) (e3 : (rd, ord) ∈ all) (e4 : (ta, instObj 220 td) ∈ all) (e5 : (td, otd) ∈ all) (e6 : (pa, instObj 66 pd) ∈ all) (e7 : (pd, opd) ∈ all) (e8 : (si, osi) ∈ all) (e9 : (lo, olo) ∈ all) (e10 : (ou, oou) ∈ all) : ∀ q ∈ Led ⟨b, l, ra, rd, ta, td, pa, pd, lo, ou⟩ si ob ol ord otd opd osi olo oou [], q ∈ all :=
  List.forall_mem_cons.mpr ⟨e0, List.forall_mem_cons.mpr ⟨e1, List.forall_mem_cons.mpr ⟨e2, List.forall_mem_cons.mpr ⟨e3, List.forall_mem_cons.mpr ⟨e4, List.forall_mem_cons.mpr ⟨e5, List.forall_mem_cons.mpr ⟨e6, List.forall_mem_cons.mpr ⟨e7, List.forall_mem_cons.mpr ⟨e8, List.forall_mem_cons.mpr ⟨e9, List.forall_mem_cons.mpr ⟨e10, fun _ h => nomatch h⟩⟩⟩⟩⟩⟩⟩⟩⟩⟩⟩
theorem jo_start {w : World} {a : Ad} {way Bu k : Int} {tw tb tn : Tok} {si : Addr} {m : Str → Option Value} {ob ol ord otd opd osi olo oou : Obj} (hy : 1 ≤ way) (hB : 0 ≤ Bu) (hk0 : 0 ≤ k) (hk1 : k ≤ 2) (D : Dis a si []) (p1 : BoxO a.l k ob) (p2 : IntsO ol) (p3 : RenO w 12000 0 ord) (p4 : RttO w way otd) (p5 : PacO w Bu Bu 0 0 opd) (p6 : SinO 0 0 osi) (p7 : PrsO [] [] olo) (p8 : PrsO [] [] oou)
    (H : Has m ((Str.ofString "now", .int 0 tn) :: (Str.ofString "since", .ref si) :: fixN a way Bu tw tb)) : JO w a way Bu tw tb 0 m (Led a si ob ol ord otd opd osi olo oou []) :=
  .mk (σ := { now := 0, le := Bu, re := 0, win := 12000, fl := 0, s0 := 0, s1 := 0, k := k, looks := [], out := [] }) (plain_start hy hB 0 0 k hk0 hk1) H ⟨D, p1, p2, p3, p4, p5, p6, p7, p8, fun _ h => nomatch h⟩
theorem law_loop {prog : Program} {w : World} {A : Around} {E : Value → Shared → Prop} {s : Shared} {env : Env} {h₀ : Heap} {x : Str} {body : List Stmt} {Q : Flow → Shared → Prop} {r : Addr} {a₀ b₀ : Int} {t₀ u₀ v₀ : Tok} {m₀ : Str → Option Value} {all nx0 : List (Addr × Obj)} {a : Ad} {way Bu : Int} {tw tb : Tok}
    (hh : A.handled = none) (hr : IsRange s.heap r a₀ b₀ 1 t₀ u₀ v₀) (hsmall : Builtin.Range.small a₀ b₀ 1 = true) (hsz : Builtin.Range.rangeSize a₀ b₀ 1 = ((12 : Nat) : Int)) (F : Fr h₀ env.locals s.heap m₀) (N : News h₀ env.locals s.heap all) (hs : ∀ q ∈ nx0, q ∈ all) (hj : JO w a way Bu tw tb 0 m₀ nx0)
    (turn : ∀ (i : Nat) (t : Tok) (m₁ : Str → Option Value) (nx : List (Addr × Obj)) (h : Heap) (tk : Nat) (I : Addr) (o : Obj), i < 12 → (∀ p ∈ nx, p.1 ≠ I) → JO w a way Bu tw tb i m₁ nx → Fr h₀ env.locals h (fun y => if y = x then some (.int (a₀ + i) t) else m₁ y) → News h₀ env.locals h ((I, o) :: nx) →
      wpAny (model prog w) A (execs body env) (TurnPost h₀ env.locals (I, o) (JO w a way Bu tw tb (i + 1)) { s with heap := h, toks := tk } Q) E { s with heap := h, toks := tk })
    (done : ∀ m₁ nx h tk, JO w a way Bu tw tb 12 m₁ nx → Fr h₀ env.locals h m₁ → News h₀ env.locals h nx → Q .next { s with heap := h, toks := tk }) :
    wpAny (model prog w) A (pyIter (.ref r)) (fun it s₂ => LoopAtV prog w A h₀ env x body Q E it s₂) E s :=
  range_loop (fun i m nx => JO w a way Bu tw tb i m nx) hh hr hsmall hsz F (fun q hq => N q (hs q hq)) hj turn done

theorem segI {w : World} {p : Program} {loose : List Str} {mean : ExcName → Option Value} {mg mb : Str → Option Value}
    {dp un : Nat} {gd : Option (List Code)} {fa : Addr} {ccd : Value} {outer : List Env} {A₀ : Around} {base h₀ : Heap} {L : Addr} {s : Shared} {Q : Flow → Shared → Prop} {E : Value → Shared → Prop}
    (B : Below A₀ base outer h₀) (X : (hd.heap_39 w.params).In h₀) (T : Top p loose mean mg mb h₀) (hdp : dp + 12 < recursionLimit) (hun : un + 400 < cLine)
    {l : Addr} {vs : List Value} {ns : List Int} (hl : h₀.IsList l vs.toArray) (hi : IntsAre vs ns) (hn : ns.length ≤ 63)
    (F : Fr h₀ L s.heap (fun x => List.lookup x [(Str.ofString "script", Value.ref l)].reverse)) (N : News h₀ L s.heap [])
    (hE : PassesOwn (model PP w) (ktrTop dp un gd (Str.ofString "law") lawScope L fa ccd [] outer) (envOf (Str.ofString "law") lawScope L fa ccd) E)
    (kk : ∀ h' tk m' nx', Fr h₀ L h' m' → News h₀ L h' nx' → Q (.ret (.bool true)) { s with heap := h', toks := tk }) :
    wpAny (model PP w) (ktrTop dp un gd (Str.ofString "law") lawScope L fa ccd [] outer) (execs lawParts.1 (envOf (Str.ofString "law") lawScope L fa ccd)) Q E s := by
  w_on
  (with_unfolding_all show wpAny _ _ (execs (_ :: _) (envOf _ (Scope.mk _ _ _ _ _) _ _ _)) _ _ _)
  (with_unfolding_all have hE2 : PassesOwn _ _ (envOf _ (Scope.mk _ _ _ _ _) _ _ _) _ := hE)
  repeat' (first | ((with_reducible show wpAny _ _ (exec (Stmt.Assign [Expr.Tuple [Expr.Name _ _, Expr.Name _ _] _ _] _ _) _) _ _ _); k_dflt (refine' tup2 ?_ ?hs ?hw; (case hs => with_unfolding_all rfl); (case hw => with_unfolding_all rfl))) | ((with_reducible show wpAny _ _ (call (.ref 231) _) _ _ _); refine Halt.out ?_) | (k_unfold; (try dsimp only)) | (k_end; wrow_close) | ((with_reducible show wpAny _ _ (execs _ _) _ _ _); dsimp only) | ((with_reducible show wpAny _ _ (storeName _ _ _) _ _ _); dsimp only) | walk1 | (dsimp only; walk1) | (leave1; walk_say "STEP leave1"; try dsimp only) | fail "no step")
  refine Halt.mk ?_
  k_dflt (refine' take_s ?B ?F ?X ?T ?hk ?hdp ?hun ?N ?mp ?md ?ne ?pb ?pl ?k0 ?k1 ?w0 ?_)
  (case B => k_asm)
  (case F => k_asm)
  (case X => k_asm)
  (case T => k_asm)
  (case hk => first | exact rfl | assumption)
  (case hdp => ktr_room)
  (case hun => ktr_units)
  (case N => k_asm)
  (case mp => k_dflt k_mem)
  (case pb => exact ⟨_, _, _, _, rfl⟩)
  (case md => k_dflt k_mem)
  (case pl => exact ⟨_, _, ⟨_, by assumption⟩, len50 (by assumption), rfl⟩)
  (case ne => k_ne)
  (case k0 => decide)
  (case k1 => decide)
  (case w0 => decide)
  intro r1 t1 ob1 ol1 h' tk1 r1a r1b pb1 pl1 F' H
  have N' := H _ _ (by k_upd) (by k_upd)
  clear H
  try k_sweep
  repeat' (first | ((with_reducible show wpAny _ _ (exec (Stmt.Assign [Expr.Tuple [Expr.Name _ _, Expr.Name _ _] _ _] _ _) _) _ _ _); k_dflt (refine' tup2 ?_ ?hs ?hw; (case hs => with_unfolding_all rfl); (case hw => with_unfolding_all rfl))) | ((with_reducible show wpAny _ _ (call (.ref 231) _) _ _ _); refine Halt.out ?_) | (k_unfold; (try dsimp only)) | (k_end; wrow_close) | (walk1 <;> try dsimp only) | (dsimp only; walk1 <;> try dsimp only) | (leave1; walk_say "STEP leave1"; try dsimp only) | fail "no step")
  refine Halt.mk ?_
  k_dflt (refine' take_s ?B ?F ?X ?T ?hk ?hdp ?hun ?N ?mp ?md ?ne ?pb ?pl ?k0 ?k1 ?w0 ?_)
  (case B => k_asm)
  (case F => k_asm)
  (case X => k_asm)
  (case T => k_asm)
  (case hk => first | exact rfl | assumption)
  (case hdp => ktr_room)
  (case hun => ktr_units)
  (case N => k_asm)
  (case mp => k_dflt k_mem)
  (case pb => exact pb1)
  (case md => k_dflt k_mem)
  (case pl => exact pl1)
  (case ne => k_ne)
  (case k0 => decide)
  (case k1 => decide)
  (case w0 => decide)
  intro r2 t2 ob2 ol2 h' tk2 r2a r2b pb2 pl2 F' H
  have N' := H _ _ (by k_upd) (by k_upd)
  clear H
  try k_sweep
  repeat' (first | ((with_reducible show wpAny _ _ (exec (Stmt.Assign [Expr.Tuple [Expr.Name _ _, Expr.Name _ _, Expr.Name _ _] _ _] _ _) _) _ _ _); k_dflt (refine' tup3 ?_ ?hs ?hw; (case hs => with_unfolding_all rfl); (case hw => with_unfolding_all rfl))) | ((with_reducible show wpAny _ _ (call (.ref 164) _) _ _ _); refine Halt.out ?_) | (k_unfold; (try dsimp only)) | (k_end; wrow_close) | (walk1 <;> try dsimp only) | (dsimp only; walk1 <;> try dsimp only) | (leave1; walk_say "STEP leave1"; try dsimp only) | fail "no step")
  rename News _ _ _ _ => N8
  have N9 := keep2 (x := (_, ob2)) (y := (_, ol2)) N8 (by k_dflt k_mem) (by k_dflt k_mem)
  clear N8
  refine Halt.mk ?_
  k_dflt (refine' reno_new ?B ?F ?X ?T ?hk ?hdp ?hun ?N  ?_)
  (case B => k_asm)
  (case F => k_asm)
  (case X => k_asm)
  (case T => k_asm)
  (case hk => first | exact rfl | assumption)
  (case hdp => ktr_room)
  (case hun => ktr_units)
  (case N => k_asm)
  intro rd ra ord h' tk3 p3 F' N' l3a l3b
  try k_sweep
  repeat' (first | ((with_reducible show wpAny _ _ (call (.ref 220) _) _ _ _); refine Halt.out ?_) | (k_unfold; (try dsimp only)) | (k_end; wrow_close) | (walk1 <;> try dsimp only) | (dsimp only; walk1 <;> try dsimp only) | (leave1; walk_say "STEP leave1"; try dsimp only) | fail "no step")
  refine Halt.mk ?_
  k_dflt (refine' rtt_new ?B ?F ?X ?T ?hk ?hdp ?hun ?N  ?_)
  (case B => k_asm)
  (case F => k_asm)
  (case X => k_asm)
  (case T => k_asm)
  (case hk => first | exact rfl | assumption)
  (case hdp => ktr_room)
  (case hun => ktr_units)
  (case N => k_asm)
  intro td ta otd0 h' tk4 p40 F' N' l4a l4b
  try k_sweep
  repeat' (first | ((with_reducible show wpAny _ _ (call (.ref 66) _) _ _ _); refine Halt.out ?_) | (k_unfold; (try dsimp only)) | (k_end; wrow_close) | (walk1 <;> try dsimp only) | (dsimp only; walk1 <;> try dsimp only) | (leave1; walk_say "STEP leave1"; try dsimp only) | fail "no step")
  refine Halt.mk ?_
  k_dflt (refine' pacer_new ?B ?F ?X ?T ?hk ?hdp ?hun ?N  ?_)
  (case B => k_asm)
  (case F => k_asm)
  (case X => k_asm)
  (case T => k_asm)
  (case hk => first | exact rfl | assumption)
  (case hdp => ktr_room)
  (case hun => ktr_units)
  (case N => k_asm)
  intro pd pa opd h' tk5 p5 F' N' l5a l5b
  try k_sweep
  repeat' (first | ((with_reducible show wpAny _ _ (getMethod (.ref _) _ _) _ _ _); k_dflt (refine' methRtt0 ?yF ?yX ?yN ?ymp ?ymd ?yp ?yhf ?yhg ?yhi ?yht ?_; (case yF => k_asm); (case yX => k_asm); (case yN => k_asm); (case ymp => k_mem); (case ymd => k_mem); (case yp => with_reducible assumption); (case yhf => decide +kernel); (case yhi => k_is); (case yhg => k_is); (case yht => k_is))) | ((with_reducible show wpAny _ _ (call (.ref 210) _) _ _ _); refine Halt.out ?_) | (k_unfold; (try dsimp only)) | (k_end; wrow_close) | (walk1 <;> try dsimp only) | (dsimp only; walk1 <;> try dsimp only) | (leave1; walk_say "STEP leave1"; try dsimp only) | fail "no step")
  refine Halt.mk ?_
  k_dflt (refine' sample0_s ?B ?F ?X ?T ?hk ?hdp ?hun ?N ?mp ?md ?yp ?ne ?_)
  (case B => k_asm)
  (case F => k_asm)
  (case X => k_asm)
  (case T => k_asm)
  (case hk => first | exact rfl | assumption)
  (case hdp => ktr_room)
  (case hun => ktr_units)
  (case N => k_asm)
  (case mp => k_dflt k_mem)
  (case md => k_dflt k_mem)
  (case yp => with_reducible assumption)
  (case ne => k_ne)
  intro otd h' tk6 p4 F' H
  have N' := H _ (by k_upd)
  clear H
  try k_sweep
  repeat' (first | ((with_reducible show wpAny _ _ (exec (Stmt.For _ _ _ _ _) _) _ _ _); (rename Fr _ _ _ _ => lF'); (with_unfolding_all refine' For_invVF lF' ?yk1 ?yk2 ?_ (hE := by with_reducible assumption); (case yk1 => exact rfl); (case yk2 => exact rfl); k_whole)) | ((with_reducible show wpAny _ _ (pyIter (Value.ref _)) (fun it s₂ => LoopAtV _ _ _ _ _ _ _ _ _ it s₂) _ _); refine Halt.out ?_) | (k_unfold; (try dsimp only)) | (k_end; wrow_close) | (walk1 <;> try dsimp only) | (dsimp only; walk1 <;> try dsimp only) | (leave1; walk_say "STEP leave1"; try dsimp only) | fail "no step")
  refine Halt.mk ?_
  rename_i hR F1 N1 _
  (with_unfolding_all refine' law_loop ?hh ?hr ?hsm ?hsz ?F ?N (led_all ?e0 ?e1 ?e2 ?e3 ?e4 ?e5 ?e6 ?e7 ?e8 ?e9 ?e10) (jo_start ?hy ?hB ?hk0 ?hk1 ?D ?p1 ?p2 ?p3 ?p4 ?p5 ?p6 ?p7 ?p8 ?H) ?turn ?done)
  case hh => rfl
  case hr => exact hR
  case hsm => exact small_one (by decide) (by decide) (by decide) (by decide)
  case hsz => rfl
  case F => exact F1
  case N => exact N1
  case H => exact ⟨rfl, rfl, rfl, rfl, rfl, rfl, rfl, rfl, rfl, rfl, trivial⟩
  case p1 => exact pb2
  case p2 => exact pl2
  case p3 => exact p3
  case p4 => exact p4
  case p5 => exact p5
  case e0 => k_dflt k_mem
  case e1 => k_dflt k_mem
  case e2 => k_dflt k_mem
  case e3 => k_dflt k_mem
  case e4 => k_dflt k_mem
  case e5 => k_dflt k_mem
  case e6 => k_dflt k_mem
  case e7 => k_dflt k_mem
  case e8 => k_dflt k_mem
  case e9 => k_dflt k_mem
  case e10 => k_dflt k_mem
  case p6 => exact (.mk _ _ _)
  case p7 => exact ⟨[], _, Prs.nil, rfl⟩
  case p8 => exact ⟨[], _, Prs.nil, rfl⟩
  case D => exact dis_start ⟨lt_new (by assumption) (by k_dflt k_mem), lt_new (by assumption) (by k_dflt k_mem), lt_new (by assumption) (by k_dflt k_mem), lt_new (by assumption) (by k_dflt k_mem), lt_new (by assumption) (by k_dflt k_mem), lt_new (by assumption) (by k_dflt k_mem), lt_new (by assumption) (by k_dflt k_mem), lt_new (by assumption) (by k_dflt k_mem), lt_new (by assumption) (by k_dflt k_mem), lt_new (by assumption) (by k_dflt k_mem), trivial⟩
  case hk0 => decide
  case hk1 => decide
  case hy => omega
  case hB => omega
  case turn =>
    intro i t m₁ nx h tk I o hi hne hJ F' N'
    (with_unfolding_all exact turnT B X T hdp hun (by omega) (by omega) (by omega) (by omega) hi hne hJ F' N' hE)
  case done =>
    intro m₁ nx h tk hJ F' N'
    (with_unfolding_all exact segZ B X T hdp hun (by omega) (by omega) (by omega) (by omega) hJ F' N' kk)
theorem len63 {n : Nat} (h : ¬ (63 : Int) < (n : Int)) : n ≤ 63 := by omega
theorem main : PySem.Challenge.rw_pb0523_01.Holds := hd (by
  k_go0
  (all_goals try k_fold)
  (with_unfolding_all refine' segI ?B ?X ?T ?hdp ?hun ?hl ?hi ?hn ?F ?N ?hE ?kk)
  case B => assumption
  case X => assumption
  case T => assumption
  case hdp => decide
  case hun => exact Nat.le_of_ble_eq_true rfl
  case hl => assumption
  case hi => assumption
  case hn => (first | assumption | (refine len63 ?_; assumption) | omega)
  case F => assumption
  case N => assumption
  case hE => passes_own
  case kk =>
    intro h' tk' m' nx' F'' N''
    k_steps)
end Mine
theorem PySem.Challenge.cw_pb0523_01_holds : PySem.Challenge.rw_pb0523_01.Holds :=
  Mine.main
